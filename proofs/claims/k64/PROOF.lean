import PyProof.Rows.All
import Wide.All
import OpenK.AllK
import Wide.FinOn
import HandS.ForMost
import HandS.ForExc
import HandS.Lambda
import HandS.EndTab
import HandS.TupAny
import HandS.More
import HandS.Zip
import HandS.TupMul
import HandS.Style
import HandS.Set
import HandS.SetFor
import KE.SortData
import PyProof.Transfer
import HandS.IsInst
import HandS.WordsDict
import HandS.TupLe
import PyProof.ListStr
import HandS.Text
import KE.GoesMore
import HandS.ExcOwn
import HandS.EndOwn
import KE.KNestM
import HandS.ExcIs
import KE.RegKIsAll
import PyProof.ReprReads
import PyProof.ReprRoads
import PySem.Challenge.RW_dialrules_k64_whole_nothing_else_read
set_option Elab.async false
set_option linter.all false
set_option maxRecDepth 100000
set_option maxHeartbeats 4000000
/-! DD: a layer of plain data over HandS. D: data; R: what comes of a piece of code (a value, a raise, or nothing promised); Env: a def's names by slot. -/
namespace DD
open PySem PySem.Spec PyProof.Rows L2

inductive D where
  | non
  | bl (b : Bool)
  | int (i : Int)
  | str (s : List Nat)
  | tup (xs : List D)
  | lst (xs : List D)
  | dct (kvs : List (List Nat × D))
  | scr (ns : List Int)

inductive R (α : Type) where
  | ok (a : α)
  | er (c : Addr)
  | un
def R.bind {α β : Type} : R α → (α → R β) → R β
  | .ok a, f => f a
  | .er c, _ => .er c
  | .un, _ => .un
def R.map {α β : Type} (f : α → β) (m : R α) : R β := m.bind fun a => .ok (f a)

inductive Slot where
  | no
  | d (x : D)
  | L (xs : List D)
  | M (kvs : List (List Nat × D))
  | K (kvs : List (List Nat × D))
abbrev Env := List Slot

/-! ### what a value in the heap tells -/
section
variable (K : PySem.W.Frag)
mutual
def Rep (F : Hp) : D → V → Prop
  | .non, v => v = .non
  | .bl b, v => v = .bl b
  | .int i, v => v = .int i
  | .str s, v => v = .str ⟨s.toArray⟩ ∧ s.length ≤ sizeLine ∧ PyData.strOk ⟨s.toArray⟩ = true
  | .tup ds, v => ∃ a vs, v = .ref a ∧ SqT K F a vs ∧ vs.length ≤ sizeLine ∧ Reps F ds vs
  | .lst ds, v => ∃ a vs, v = .ref a ∧ F a = some (.lst vs) ∧ vs.length ≤ sizeLine ∧ Reps F ds vs
  | .scr ns, v => ∃ a, v = .ref a ∧ SqL K F a (ns.map V.int) ∧ ns.length ≤ sizeLine
  | .dct kvs, v => ∃ a kv, v = .ref a ∧ F a = some (.dK kv) ∧ kv.length ≤ sizeLine ∧ RepKs F kvs kv
def Reps (F : Hp) : List D → List V → Prop
  | [], vs => vs = []
  | d :: ds, vs => ∃ v r, vs = v :: r ∧ Rep F d v ∧ Reps F ds r
def RepKs (F : Hp) : List (List Nat × D) → List (Key × V) → Prop
  | [], vs => vs = []
  | (k, d) :: ds, vs => ∃ v r, vs = (Sum.inr ⟨k.toArray⟩, v) :: r ∧ (k.length ≤ sizeLine ∧ PyData.strOk ⟨k.toArray⟩ = true) ∧ Rep F d v ∧ RepKs F ds r
end
end

theorem Same.sqT {K : PySem.W.Frag} {H H' : Hp} {a : Addr} {xs : List V} (e : Same H H') (h : SqT K H a xs) : SqT K H' a xs := by
  rcases h with (h | ⟨o, h⟩) | h
  · exact .inl (.inl (e _ _ h))
  · exact .inl (.inr ⟨o, e _ _ h⟩)
  · exact .inr h
section
variable {K : PySem.W.Frag} {F F' : Hp}
mutual
theorem Rep.mono (e : Same F F') : ∀ (d : D) (v : V), Rep K F d v → Rep K F' d v
  | .non, _, h => h
  | .bl _, _, h => h
  | .int _, _, h => h
  | .str _, _, h => h
  | .tup ds, v, h => by
    obtain ⟨a, vs, rfl, h1, h2, h3⟩ := h
    exact ⟨a, vs, rfl, Same.sqT e h1, h2, Reps.mono e ds vs h3⟩
  | .lst ds, v, h => by
    obtain ⟨a, vs, rfl, h1, h2, h3⟩ := h
    exact ⟨a, vs, rfl, e _ _ h1, h2, Reps.mono e ds vs h3⟩
  | .scr ns, v, h => by
    obtain ⟨a, rfl, h1, h2⟩ := h
    exact ⟨a, rfl, Same.seq e h1, h2⟩
  | .dct kvs, v, h => by
    obtain ⟨a, vs, rfl, h1, h2, h3⟩ := h
    exact ⟨a, vs, rfl, e _ _ h1, h2, RepKs.mono e kvs vs h3⟩
theorem Reps.mono (e : Same F F') : ∀ (ds : List D) (vs : List V), Reps K F ds vs → Reps K F' ds vs
  | [], _, h => h
  | d :: ds, vs, h => by
    obtain ⟨v, r, rfl, h1, h2⟩ := h
    exact ⟨v, r, rfl, Rep.mono e d v h1, Reps.mono e ds r h2⟩
theorem RepKs.mono (e : Same F F') : ∀ (ds : List (List Nat × D)) (vs : List (Key × V)), RepKs K F ds vs → RepKs K F' ds vs
  | [], _, h => h
  | (k, d) :: ds, vs, h => by
    obtain ⟨v, r, rfl, h0, h1, h2⟩ := h
    exact ⟨v, r, rfl, h0, Rep.mono e d v h1, RepKs.mono e ds r h2⟩
end
theorem Reps.length : ∀ {ds : List D} {vs : List V}, Reps K F ds vs → ds.length = vs.length
  | [], _, h => by
    have h : _ = [] := h
    rw [h]
    rfl
  | d :: ds, vs, h => by
    obtain ⟨v, r, rfl, _, h2⟩ := h
    simp [Reps.length h2]
theorem Reps.get : ∀ {ds : List D} {vs : List V} {i : Nat} {d : D}, Reps K F ds vs → ds[i]? = some d → ∃ v, vs[i]? = some v ∧ Rep K F d v
  | [], _, _, _, _, e => by simp at e
  | d :: ds, vs, 0, d', h, e => by
    obtain ⟨v, r, rfl, h1, _⟩ := h
    have e : d = d' := by simpa using e
    subst e
    exact ⟨v, rfl, h1⟩
  | d :: ds, vs, i + 1, d', h, e => by
    obtain ⟨v, r, rfl, _, h2⟩ := h
    obtain ⟨u, e1, e2⟩ := Reps.get (i := i) (d := d') h2 (by simpa using e)
    exact ⟨u, by simpa using e1, e2⟩
theorem Reps.getV : ∀ {ds : List D} {vs : List V} {i : Nat} {v : V}, Reps K F ds vs → vs[i]? = some v → ∃ d, ds[i]? = some d ∧ Rep K F d v := fun {ds vs i v} h e => by
  have hl := Reps.length h
  have hi : i < ds.length := by rw [hl]; exact (List.getElem?_eq_some_iff.mp e).1
  obtain ⟨u, e1, e2⟩ := Reps.get h (List.getElem?_eq_getElem hi)
  rw [e] at e1
  cases e1
  exact ⟨ds[i], List.getElem?_eq_getElem hi, e2⟩
theorem Reps.append : ∀ {ds es : List D} {vs ws : List V}, Reps K F ds vs → Reps K F es ws → Reps K F (ds ++ es) (vs ++ ws)
  | [], _, _, _, h, g => by
    have h : _ = [] := h
    rw [h]
    exact g
  | d :: ds, es, vs, ws, h, g => by
    obtain ⟨v, r, rfl, h1, h2⟩ := h
    exact ⟨v, r ++ ws, rfl, h1, Reps.append h2 g⟩
theorem Reps.one {d : D} {v : V} (h : Rep K F d v) : Reps K F [d] [v] := ⟨v, [], rfl, h, rfl⟩
theorem Reps.take : ∀ {ds : List D} {vs : List V} (n : Nat), Reps K F ds vs → Reps K F (ds.take n) (vs.take n)
  | _, _, 0, _ => by simp [Reps]
  | [], _, n + 1, h => by
    have h : _ = [] := h
    rw [h]
    simp [Reps]
  | d :: ds, vs, n + 1, h => by
    obtain ⟨v, r, rfl, h1, h2⟩ := h
    exact ⟨v, r.take n, rfl, h1, Reps.take n h2⟩
theorem Reps.drop : ∀ {ds : List D} {vs : List V} (n : Nat), Reps K F ds vs → Reps K F (ds.drop n) (vs.drop n)
  | _, _, 0, h => h
  | [], _, n + 1, h => by
    have h : _ = [] := h
    rw [h]
    simp [Reps]
  | d :: ds, vs, n + 1, h => by
    obtain ⟨v, r, rfl, h1, h2⟩ := h
    exact Reps.drop n h2
theorem Reps.reverse : ∀ {ds : List D} {vs : List V}, Reps K F ds vs → Reps K F ds.reverse vs.reverse
  | [], _, h => by
    have h : _ = [] := h
    rw [h]
    rfl
  | d :: ds, vs, h => by
    obtain ⟨v, r, rfl, h1, h2⟩ := h
    rw [List.reverse_cons, List.reverse_cons]
    exact Reps.append (Reps.reverse h2) (Reps.one h1)
end

/-! ### how a heap grows: F the frozen part; T: the tables of code objects; adr: where the classes of errors stand -/
class Glo where
  T : List (Addr × Str)
  adr : Nat → Addr
/-- nothing stands there but perhaps a table -/
def Fre (H : Hp) (a : Addr) : Prop := ∀ x, H a = some x → ∃ ps, x = .tbl ps
theorem Fre.of {H : Hp} {a : Addr} (h : H a = none) : Fre H a := fun x e => by rw [h] at e; cases e
theorem Fre.back {H H' : Hp} {a : Addr} (e : LamX.ExtN H H') (h : Fre H' a) : Fre H a := fun x hx => by
  by_cases n : ∃ ps, x = .tbl ps
  · exact n
  · exact h x (e a x hx fun ps z => n ⟨ps, z⟩)
/-- an object that is neither a table nor a code object -/
def Own (u : HO) : Prop := (∀ ps, u ≠ .tbl ps) ∧ ∀ c q, u ≠ LamX.CodeO c q
theorem own_lst {xs : List V} : Own (.lst xs) := ⟨(fun _ z => by cases z), fun _ _ z => by unfold LamX.CodeO at z; cases z⟩
theorem own_dK {xs : List (Key × V)} : Own (.dK xs) := ⟨(fun _ z => by cases z), fun _ _ z => by unfold LamX.CodeO at z; cases z⟩
theorem own_fK {od : Obj} {xs : List (Key × V)} : Own (.frz od (.dK xs)) := ⟨(fun _ z => by cases z), fun _ _ z => by unfold LamX.CodeO at z; cases z⟩
theorem tabs_upd {T : List (Addr × Str)} {H : Hp} {a : Addr} {o u : HO} (t : LamX.Tabs T H) (h : H a = some u) (n : Own u) : LamX.Tabs T (upd H a o) := fun p hp => by
  obtain ⟨ps, h1, h2, h3⟩ := t p hp
  refine ⟨ps, ?_, h2, fun pos cv hc => ?_⟩
  · rw [upd_ne (fun z => by rw [z, h] at h1; exact n.1 ps (Option.some.inj h1))]
    exact h1
  · obtain ⟨c, e1, e2⟩ := h3 pos cv hc
    refine ⟨c, e1, ?_⟩
    rw [upd_ne (fun z => by rw [z, h] at e2; exact n.2 _ _ (Option.some.inj e2))]
    exact e2
/-- no table is there -/
def NT (F : Hp) : Prop := ∀ a ps, F a ≠ some (.tbl ps)
theorem NT.upd {F : Hp} {p : Addr} {o : HO} (h : NT F) (n : ∀ ps, o ≠ .tbl ps) : NT (L2.upd F p o) := fun a ps e => by
  by_cases ha : a = p
  · subst ha
    rw [upd_same] at e
    exact n ps (Option.some.inj e)
  · rw [upd_ne ha] at e
    exact h a ps e
structure Gr [Glo] (F H F' H' : Hp) : Prop where
  hh : LamX.ExtN H H'
  tb : LamX.Tabs Glo.T H → LamX.Tabs Glo.T H'
  nt : NT F → NT F'
  ff : Same F F'
  fh : Same F' H'
  nw : ∀ a o, F' a = some o → F a = some o ∨ Fre H a
theorem Gr.of [Glo] {F H F' H' : Hp} (hh : Same H H') (ff : Same F F') (fh : Same F' H') (nw : ∀ a o, F' a = some o → F a = some o ∨ H a = none) (nt : NT F → NT F') : Gr F H F' H' :=
  ⟨LamX.ExtN.of hh, fun t => t.ext hh, nt, ff, fh, fun a o e => (nw a o e).imp id Fre.of⟩
theorem Gr.refl [Glo] {F H : Hp} (h : Same F H) : Gr F H F H := Gr.of (Same.refl H) (Same.refl F) h (fun _ _ e => .inl e) id
theorem Gr.trans [Glo] {F H F1 H1 F2 H2 : Hp} (a : Gr F H F1 H1) (b : Gr F1 H1 F2 H2) : Gr F H F2 H2 := by
  refine ⟨a.hh.trans b.hh, fun t => b.tb (a.tb t), fun t => b.nt (a.nt t), a.ff.trans b.ff, b.fh, fun c o e => ?_⟩
  rcases b.nw c o e with h | h
  · exact a.nw c o h
  · exact .inr (h.back a.hh)
theorem same_new {H : Hp} {p : Addr} {o : HO} (h : H p = none) : Same H (upd H p o) := fun b x e => by
  rw [upd_ne (ne_of_none e h)]
  exact e
/-- a new object that is frozen at once -/
theorem Gr.new [Glo] {F H : Hp} {p : Addr} {o : HO} (s : Same F H) (h : H p = none) (n : ∀ ps, o ≠ .tbl ps := by (intro ps z; cases z)) : Gr F H (upd F p o) (upd H p o) := by
  refine Gr.of (same_new h) (same_new (s.free h)) (fun b x e => ?_) (fun a x e => ?_) fun t => t.upd n
  · by_cases hb : b = p
    · subst hb
      rw [upd_same] at e ⊢
      exact e
    · rw [upd_ne hb] at e ⊢
      exact s b x e
  · by_cases hb : a = p
    · subst hb
      exact .inr h
    · rw [upd_ne hb] at e
      exact .inl e

/-- what is wanted of the outcome r of a piece of code begun at F, H -/
def W [Glo] {α : Type} (F H : Hp) (P : α → Hp → Hp → Prop) (r : R α) (E : XK) : Prop :=
  match r with
  | .un => False
  | .er C => ∀ F' H', Gr F H F' H' → E (.ref (Glo.adr C)) none H'
  | .ok a => ∀ F' H', Gr F H F' H' → P a F' H'
section
variable {α β : Type} {F H F1 H1 : Hp} {P P' : α → Hp → Hp → Prop} {E : XK}
theorem W.grow [Glo] {r : R α} (g : Gr F H F1 H1) (h : W F H P r E) : W F1 H1 P r E := by
  cases r with
  | un => exact h
  | er C => exact fun F' H' g' => h F' H' (g.trans g')
  | ok a => exact fun F' H' g' => h F' H' (g.trans g')
theorem W.imp [Glo] {r : R α} (h : W F H P r E) (f : ∀ a F' H', Gr F H F' H' → P a F' H' → P' a F' H') : W F H P' r E := by
  cases r with
  | un => exact h
  | er C => exact h
  | ok a => exact fun F' H' g' => f a F' H' g' (h F' H' g')
theorem W.bind [Glo] {m : R β} {f : β → R α} (h : W F H P (m.bind f) E) : W F H (fun b F1 H1 => W F1 H1 P (f b) E) m E := by
  cases m with
  | un => exact h
  | er C => exact h
  | ok b => exact fun F1 H1 g => W.grow g h
theorem W.ok [Glo] {a : α} (s : Same F H) (h : W F H P (.ok a) E) : P a F H := h F H (Gr.refl s)
end
/-- value wanted -/
abbrev PV (K : PySem.W.Frag) (Q : VK) : D → Hp → Hp → Prop := fun d F' H' => ∀ v, Rep K F' d v → Q v H'
abbrev PB (Q : Bool → Hp → Prop) : Bool → Hp → Hp → Prop := fun b _ H' => Q b H'
abbrev PVs (K : PySem.W.Frag) (Q : List V → Hp → Prop) : List D → Hp → Hp → Prop := fun ds F' H' => ∀ vs, Reps K F' ds vs → Q vs H'

/-! ### a def's slots -/
def SlotOk (K : PySem.W.Frag) (B F H : Hp) (σi : Option (Option V)) : Slot → Prop
  | .no => True
  | .d x => ∃ v, σi = some (some v) ∧ Rep K F x v
  | .L xs => ∃ a vs, σi = some (some (.ref a)) ∧ Fre B a ∧ F a = none ∧ H a = some (.lst vs) ∧ vs.length ≤ sizeLine ∧ Reps K F xs vs
  | .M kvs => ∃ a kv, σi = some (some (.ref a)) ∧ Fre B a ∧ F a = none ∧ H a = some (.dK kv) ∧ kv.length ≤ sizeLine ∧ RepKs K F kvs kv
  | .K kvs => ∃ a kv, σi = some (some (.ref a)) ∧ (∃ od, F a = some (.frz od (.dK kv))) ∧ kv.length ≤ sizeLine ∧ RepKs K F kvs kv
def Slot.owns : Slot → Bool
  | .L _ => true
  | .M _ => true
  | _ => false
structure Ok [Glo] (K : PySem.W.Frag) (F0 B F : Hp) (σ : L2.St) (H : Hp) (ρ : Env) : Prop where
  gr : Gr F0 B F H
  tb : LamX.Tabs Glo.T B
  nt : NT F0
  len : σ.length = ρ.length
  sl : ∀ (i : Nat) (s : Slot), ρ[i]? = some s → SlotOk K B F H σ[i]? s
  dj : ∀ (i j : Nat) (s s' : Slot) (a : Addr), i ≠ j → ρ[i]? = some s → ρ[j]? = some s' → s.owns = true → s'.owns = true → σ[i]? = some (some (.ref a)) → σ[j]? = some (some (.ref a)) → False
section
variable {K : PySem.W.Frag} {F0 B F F' : Hp} {σ : L2.St} {H H' : Hp} {ρ : Env}
theorem SlotOk.grow [Glo] {o : Option (Option V)} {s : Slot} (g : Gr F H F' H') (h : SlotOk K B F H o s) : SlotOk K B F' H' o s := by
  have nf : ∀ a x, F a = none → H a = some x → (∀ ps, x ≠ .tbl ps) → F' a = none := fun a x h1 h2 n => by
    cases e : F' a with
    | none => rfl
    | some y =>
      rcases g.nw a y e with z | z
      · rw [h1] at z; cases z
      · obtain ⟨ps, q⟩ := z x h2
        exact absurd q (n ps)
  cases s with
  | no => trivial
  | d x =>
    obtain ⟨v, h1, h2⟩ := h
    exact ⟨v, h1, Rep.mono g.ff _ _ h2⟩
  | L xs =>
    obtain ⟨a, vs, h1, h2, h3, h4, h5, h6⟩ := h
    exact ⟨a, vs, h1, h2, nf a _ h3 h4 (fun _ q => nomatch q), g.hh _ _ h4 (fun _ q => nomatch q), h5, Reps.mono g.ff _ _ h6⟩
  | M kvs =>
    obtain ⟨a, vs, h1, h2, h3, h4, h5, h6⟩ := h
    exact ⟨a, vs, h1, h2, nf a _ h3 h4 (fun _ q => nomatch q), g.hh _ _ h4 (fun _ q => nomatch q), h5, RepKs.mono g.ff _ _ h6⟩
  | K kvs =>
    obtain ⟨a, vs, h1, ⟨od, h4⟩, h5, h6⟩ := h
    exact ⟨a, vs, h1, ⟨od, g.ff _ _ h4⟩, h5, RepKs.mono g.ff _ _ h6⟩
theorem Ok.grow [Glo] (ok : Ok K F0 B F σ H ρ) (g : Gr F H F' H') : Ok K F0 B F' σ H' ρ :=
  ⟨ok.gr.trans g, ok.tb, ok.nt, ok.len, fun i s e => (ok.sl i s e).grow g, ok.dj⟩
theorem Ok.fh [Glo] (ok : Ok K F0 B F σ H ρ) : Same F H := ok.gr.fh
theorem Ok.set [Glo] {x : D} {v : V} (i : Nat) (ok : Ok K F0 B F σ H ρ) (r : Rep K F x v) : Ok K F0 B F (σ.set i (some v)) H (ρ.set i (.d x)) := by
  refine ⟨ok.gr, ok.tb, ok.nt, by simp [ok.len], fun j s e => ?_, fun j k s s' a n e1 e2 o1 o2 q1 q2 => ?_⟩
  · by_cases hj : i = j
    · subst hj
      have hi : i < ρ.length := by
        have := (List.getElem?_eq_some_iff.mp e).1
        simpa using this
      rw [List.getElem?_set_self hi] at e
      cases e
      exact ⟨v, List.getElem?_set_self (by rw [ok.len]; exact hi), r⟩
    · rw [List.getElem?_set_ne hj] at e ⊢
      exact ok.sl j s e
  · have nj : i ≠ j := fun z => by
      subst z
      have hi : i < ρ.length := by
        have := (List.getElem?_eq_some_iff.mp e1).1
        simpa using this
      rw [List.getElem?_set_self hi] at e1
      cases e1
      cases o1
    have nk : i ≠ k := fun z => by
      subst z
      have hi : i < ρ.length := by
        have := (List.getElem?_eq_some_iff.mp e2).1
        simpa using this
      rw [List.getElem?_set_self hi] at e2
      cases e2
      cases o2
    rw [List.getElem?_set_ne nj] at e1 q1
    rw [List.getElem?_set_ne nk] at e2 q2
    exact ok.dj j k s s' a n e1 e2 o1 o2 q1 q2
/-- slots forgotten -/
def wipeE (ρ : Env) : List Nat → Env
  | [] => ρ
  | v :: vs => (wipeE ρ vs).set v .no
theorem Ok.setNone [Glo] (i : Nat) (ok : Ok K F0 B F σ H ρ) : Ok K F0 B F (σ.set i none) H (ρ.set i .no) := by
  refine ⟨ok.gr, ok.tb, ok.nt, by simp [ok.len], fun j s e => ?_, fun j k s s' a n e1 e2 o1 o2 q1 q2 => ?_⟩
  · by_cases hj : i = j
    · subst hj
      have hi : i < ρ.length := by
        have := (List.getElem?_eq_some_iff.mp e).1
        simpa using this
      rw [List.getElem?_set_self hi] at e
      cases e
      trivial
    · rw [List.getElem?_set_ne hj] at e ⊢
      exact ok.sl j s e
  · have nj : i ≠ j := fun z => by
      subst z
      have hi : i < ρ.length := by
        have := (List.getElem?_eq_some_iff.mp e1).1
        simpa using this
      rw [List.getElem?_set_self hi] at e1
      cases e1
      cases o1
    have nk : i ≠ k := fun z => by
      subst z
      have hi : i < ρ.length := by
        have := (List.getElem?_eq_some_iff.mp e2).1
        simpa using this
      rw [List.getElem?_set_self hi] at e2
      cases e2
      cases o2
    rw [List.getElem?_set_ne nj] at e1 q1
    rw [List.getElem?_set_ne nk] at e2 q2
    exact ok.dj j k s s' a n e1 e2 o1 o2 q1 q2
theorem Ok.wipe [Glo] (ok : Ok K F0 B F σ H ρ) : ∀ vs : List Nat, Ok K F0 B F (wipe σ vs) H (wipeE ρ vs)
  | [] => ok
  | v :: vs => (ok.wipe vs).setNone v
end
end DD

namespace DD
open PySem PySem.Spec PyProof.Rows L2

/-! ### what readings give over data -/
def EvE [Glo] (K : PySem.W.Frag) (E : XK) (t : TE) (φ : Env → R D) : Prop :=
  ∀ (F0 B F : Hp) (σ : L2.St) (H : Hp) (ρ : Env) (Q : VK), Ok K F0 B F σ H ρ → W F H (PV K Q) (φ ρ) E → t σ H Q
def EvT [Glo] (K : PySem.W.Frag) (E : XK) (t : TT) (φ : Env → R Bool) : Prop :=
  ∀ (F0 B F : Hp) (σ : L2.St) (H : Hp) (ρ : Env) (Q : Bool → Hp → Prop), Ok K F0 B F σ H ρ → W F H (PB Q) (φ ρ) E → t σ H Q
def EvA [Glo] (K : PySem.W.Frag) (E : XK) (t : TA) (φ : Env → R (List D)) : Prop :=
  ∀ (F0 B F : Hp) (σ : L2.St) (H : Hp) (ρ : Env) (Q : List V → Hp → Prop), Ok K F0 B F σ H ρ → W F H (PVs K Q) (φ ρ) E → t σ H Q
def EvO [Glo] (K : PySem.W.Frag) (E : XK) (t : TO) (φ : Env → R (Option Int)) : Prop :=
  ∀ (F0 B F : Hp) (σ : L2.St) (H : Hp) (ρ : Env) (Q : Option Int → Hp → Prop), Ok K F0 B F σ H ρ → W F H (fun o _ H' => Q o H') (φ ρ) E → t σ H Q

structure DE [Glo] (X : Cx) (K : PySem.W.Frag) (E : XK) (e : Expr) (t : TE) (φ : Env → R D) : Prop where
  pe : PE X e t
  ev : EvE K E t φ
structure DT [Glo] (X : Cx) (K : PySem.W.Frag) (E : XK) (e : Expr) (t : TT) (φ : Env → R Bool) : Prop where
  pt : PT X e t
  ev : EvT K E t φ
structure DW [Glo] (X : Cx) (K : PySem.W.Frag) (E : XK) (e : Expr) (t : TT) (φ : Env → R Bool) : Prop where
  pw : PW X e t
  ev : EvT K E t φ
structure DA [Glo] (X : Cx) (K : PySem.W.Frag) (E : XK) (es : List Expr) (t : TA) (φ : Env → R (List D)) : Prop where
  pa : PA X es t
  ev : EvA K E t φ
structure DO [Glo] (X : Cx) (K : PySem.W.Frag) (E : XK) (e : Option Expr) (t : TO) (φ : Env → R (Option Int)) : Prop where
  po : PO X e t
  ev : EvO K E t φ

/-! ### names, constants -/
def vI (i : Nat) : Env → R D := fun ρ => match ρ[i]? with
  | some (.d x) => .ok x
  | _ => .un
def cst (d : D) : Env → R D := fun _ => .ok d
section
variable {X : Cx} {E : XK} {K : PySem.W.Frag}
theorem ev_var [Glo] {i : Nat} : EvE K E (tVar i) (vI i) := by
  intro F0 B F σ H ρ Q ok w
  unfold vI at w
  split at w
  · rename_i x e
    obtain ⟨v, h1, h2⟩ := ok.sl i _ e
    exact ⟨v, h1, W.ok ok.fh w v h2⟩
  · exact w.elim
theorem dv [Glo] (i : Nat) {x : Str} {pos : Pos} (hN : X.N[i]? = some x := by rfl) (hv : Vis X.env.scope x := by first | exact Or.inl rfl | exact Or.inr (Or.inl rfl) | exact Or.inr (Or.inr rfl)) (hd : (x == ("__debug__" : Str)) = false := by decide)
    (hcd : (x == ("__classdict__" : Str)) = false := by decide) : DE X K E (.Name x pos) (tVar i) (vI i) := ⟨pe_var hN hv hd hcd, ev_var⟩
theorem ev_c [Glo] {d : D} {v : V} (h : ∀ F, Rep K F d v) : EvE K E (tC v) (cst d) := by
  intro F0 B F σ H ρ Q ok w
  exact W.ok ok.fh w v (h F)
theorem d_int [Glo] {i : Int} {j pos} : DE X K E (.Constant (.int i) j pos) (tC (.int i)) (cst (.int i)) := ⟨pe_int, ev_c fun _ => rfl⟩
theorem d_bl [Glo] {b : Bool} {j pos} : DE X K E (.Constant (.bool b) j pos) (tC (.bl b)) (cst (.bl b)) := ⟨pe_bl, ev_c fun _ => rfl⟩
theorem d_non [Glo] {j pos} : DE X K E (.Constant .none j pos) (tC .non) (cst .non) := ⟨pe_non, ev_c fun _ => rfl⟩
/-- a written text, by its codes -/
theorem d_str [Glo] {x : Str} (s : List Nat) {j pos} (h : x = ⟨s.toArray⟩ := by decide +kernel) (h2 : s.length ≤ 1000 := by decide) (h3 : PyData.strOk ⟨s.toArray⟩ = true := by decide +kernel) : DE X K E (.Constant (.str x) j pos) (tC (.str x)) (cst (.str s)) :=
  ⟨pe_str, ev_c fun _ => ⟨by rw [h], Nat.le_trans h2 (by decide), h3⟩⟩
/-- a module's constant -/
theorem d_glob [Glo] {x : Str} {v : V} {u : Value} {d : D} {pos : Pos} (hg : Gl X x) (hm : X.mg x = some u) (r : RelV v u) (h : ∀ F, Rep K F d v) (hd : (x == ("__debug__" : Str)) = false := by decide) : DE X K E (.Name x pos) (tC v) (cst d) :=
  ⟨pe_glob hg hm r hd, ev_c h⟩
end

/-! ### operators -/
def OpD [Glo] (K : PySem.W.Frag) (r : R2) (f : D → D → R D) : Prop :=
  ∀ (F H : Hp) (x y : D) (v u : V) (Q : VK), Same F H → Rep K F x v → Rep K F y u → ∀ E : XK, (∀ c, f x y ≠ .er c) → W F H (PV K Q) (f x y) E → r v u H Q
def op2 (f : D → D → R D) (a b : Env → R D) : Env → R D := fun ρ => (a ρ).bind fun x => (b ρ).bind fun y => f x y
def NoEr (f : D → D → R D) : Prop := ∀ x y c, f x y ≠ .er c
section
variable {X : Cx} {E : XK} {K : PySem.W.Frag}
theorem ev_op [Glo] {r : R2} {f : D → D → R D} {ta tb : TE} {a b : Env → R D} (o : OpD K r f) (n : NoEr f) (ha : EvE K E ta a) (hb : EvE K E tb b) : EvE K E (tOp r ta tb) (op2 f a b) := by
  intro F0 B F σ H ρ Q ok w
  refine ha F0 B F σ H ρ _ ok (W.imp (W.bind w) fun x F1 H1 g1 w1 v r1 => ?_)
  refine hb F0 B F1 σ H1 ρ _ (ok.grow g1) (W.imp (W.bind w1) fun y F2 H2 g2 w2 u r2 => ?_)
  exact o F2 H2 x y v u Q g2.fh (Rep.mono g2.ff _ _ r1) r2 E (n x y) w2
theorem d_op [Glo] {op : Operator} {r : R2} {f : D → D → R D} {ea eb : Expr} {pos : Pos} {ta tb : TE} {a b : Env → R D} (o : OpD K r f) (ho : OpR X (binaryOp op) r) (n : NoEr f) (ha : DE X K E ea ta a) (hb : DE X K E eb tb b) :
    DE X K E (.BinOp ea op eb pos) (tOp r ta tb) (op2 f a b) := ⟨pe_op ho ha.pe hb.pe, ev_op o n ha.ev hb.ev⟩
theorem d_cmp [Glo] {op : CmpOp} {r : R2} {f : D → D → R D} {ea eb : Expr} {pos : Pos} {ta tb : TE} {a b : Env → R D} (o : OpD K r f) (ho : OpR X (compareOp op) r) (n : NoEr f) (ha : DE X K E ea ta a) (hb : DE X K E eb tb b)
    (hm : behindInMarks op eb = false) : DE X K E (.Compare ea [op] [eb] pos) (tOp r ta tb) (op2 f a b) := ⟨pe_cmpR ho ha.pe hb.pe hm, ev_op o n ha.ev hb.ev⟩
/-- the truth of a value that is a bool -/
def asB : D → R Bool
  | .bl b => .ok b
  | _ => .un
def tst (a : Env → R D) : Env → R Bool := fun ρ => (a ρ).bind asB
theorem rep_bl {F : Hp} {b : Bool} {v : V} (h : Rep K F (.bl b) v) : v = .bl b := h
theorem rep_int {F : Hp} {b : Int} {v : V} (h : Rep K F (.int b) v) : v = .int b := h
theorem asB_ok [Glo] {F H : Hp} {Q : Bool → Hp → Prop} {d : D} {v : V} (s : Same F H) (r : Rep K F d v) (w : W F H (PB Q) (asB d) E) : ∃ k, v = .bl k ∧ Q k H := by
  cases d with
  | bl b => exact ⟨b, rep_bl r, W.ok s w⟩
  | non => exact w.elim
  | int _ => exact w.elim
  | str _ => exact w.elim
  | tup _ => exact w.elim
  | lst _ => exact w.elim
  | dct _ => exact w.elim
  | scr _ => exact w.elim
theorem et_test [Glo] {t : TE} {a : Env → R D} (h : EvE K E t a) : EvT K E (tTest t) (tst a) := by
  intro F0 B F σ H ρ Q ok w
  exact h F0 B F σ H ρ _ ok (W.imp (W.bind w) fun d F1 H1 g1 w1 v r1 => asB_ok g1.fh r1 w1)
theorem et_B [Glo] {t : TE} {a : Env → R D} (h : EvE K E t a) : EvT K E (tB t) (tst a) := by
  intro F0 B F σ H ρ Q ok w
  exact h F0 B F σ H ρ _ ok (W.imp (W.bind w) fun d F1 H1 g1 w1 v r1 => asB_ok g1.fh r1 w1)
theorem t_cmp [Glo] {op : CmpOp} {r : R2} {f : D → D → R D} {ea eb : Expr} {pos : Pos} {ta tb : TE} {a b : Env → R D} (o : OpD K r f) (ho : OpR X (compareOp op) r) (n : NoEr f) (ha : DE X K E ea ta a) (hb : DE X K E eb tb b)
    (hm : behindInMarks op eb = false) : DT X K E (.Compare ea [op] [eb] pos) (tTest (tOp r ta tb)) (tst (op2 f a b)) := ⟨pt_cmpR ho ha.pe hb.pe hm, et_test (ev_op o n ha.ev hb.ev)⟩
theorem t_val [Glo] {e : Expr} {t : TE} {a : Env → R D} (h : DE X K E e t a) (he : ∀ whole, isTrue e X.env whole = (do let v ← whole; standAt e.pos; holding [v] (truthy v)) := by intro _; rfl) : DT X K E e (tB t) (tst a) := ⟨pt_val h.pe he, et_B h.ev⟩

/-! ### and, or, not -/
def andT (a b : Env → R Bool) : Env → R Bool := fun ρ => (a ρ).bind fun x => if x = true then b ρ else .ok false
def orT (a b : Env → R Bool) : Env → R Bool := fun ρ => (a ρ).bind fun x => if x = true then .ok true else b ρ
def notT (a : Env → R Bool) : Env → R Bool := fun ρ => (a ρ).bind fun x => .ok (!x)
theorem et_and [Glo] {t u : TT} {a b : Env → R Bool} (ha : EvT K E t a) (hb : EvT K E u b) : EvT K E (tAnd t u) (andT a b) := by
  intro F0 B F σ H ρ Q ok w
  refine ha F0 B F σ H ρ _ ok (W.imp (W.bind w) fun x F1 H1 g1 w1 => ?_)
  cases x with
  | true => exact hb F0 B F1 σ H1 ρ _ (ok.grow g1) w1
  | false =>
    have w1 : W F1 H1 (PB Q) (.ok false) E := w1
    exact (W.ok g1.fh w1 : Q false H1)
theorem et_or [Glo] {t u : TT} {a b : Env → R Bool} (ha : EvT K E t a) (hb : EvT K E u b) : EvT K E (tOr t u) (orT a b) := by
  intro F0 B F σ H ρ Q ok w
  refine ha F0 B F σ H ρ _ ok (W.imp (W.bind w) fun x F1 H1 g1 w1 => ?_)
  cases x with
  | true =>
    have w1 : W F1 H1 (PB Q) (.ok true) E := w1
    exact (W.ok g1.fh w1 : Q true H1)
  | false => exact hb F0 B F1 σ H1 ρ _ (ok.grow g1) w1
theorem et_not [Glo] {t : TT} {a : Env → R Bool} (ha : EvT K E t a) : EvT K E (tNot t) (notT a) := by
  intro F0 B F σ H ρ Q ok w
  exact ha F0 B F σ H ρ _ ok (W.imp (W.bind w) fun x F1 H1 g1 (w1 : W F1 H1 (PB Q) (.ok (!x)) E) => (W.ok g1.fh w1 : Q (!x) H1))
variable {ea eb : Expr} {rest : List Expr} {pos : Pos} {t u : TT} {a b : Env → R Bool}
theorem w_and1 [Glo] (h : DT X K E ea t a) : DW X K E (.BoolOp .And [ea] pos) t a := ⟨pw_and1 h.pt, h.ev⟩
theorem w_or1 [Glo] (h : DT X K E ea t a) : DW X K E (.BoolOp .Or [ea] pos) t a := ⟨pw_or1 h.pt, h.ev⟩
theorem w_and [Glo] (h : DT X K E ea t a) (h2 : DW X K E (.BoolOp .And (eb :: rest) pos) u b) : DW X K E (.BoolOp .And (ea :: eb :: rest) pos) (tAnd t u) (andT a b) := ⟨pw_and h.pt h2.pw, et_and h.ev h2.ev⟩
theorem w_or [Glo] (h : DT X K E ea t a) (h2 : DW X K E (.BoolOp .Or (eb :: rest) pos) u b) : DW X K E (.BoolOp .Or (ea :: eb :: rest) pos) (tOr t u) (orT a b) := ⟨pw_or h.pt h2.pw, et_or h.ev h2.ev⟩
theorem t_w [Glo] (h : DW X K E ea t a) : DT X K E ea t a := ⟨h.pw.pt, h.ev⟩
theorem t_not [Glo] (h : DT X K E ea t a) : DT X K E (.UnaryOp .Not ea pos) (tNot t) (notT a) := ⟨pt_not h.pt, et_not h.ev⟩
end

/-! ### and, or, not as values -/
def andV (a b : Env → R D) : Env → R D := fun ρ => (a ρ).bind fun x => (asB x).bind fun k => if k = true then b ρ else .ok (.bl false)
def orV (a b : Env → R D) : Env → R D := fun ρ => (a ρ).bind fun x => (asB x).bind fun k => if k = true then .ok (.bl true) else b ρ
def notV (a : Env → R D) : Env → R D := fun ρ => (a ρ).bind fun x => (asB x).bind fun k => .ok (.bl (!k))
def ifV (c : Env → R Bool) (a b : Env → R D) : Env → R D := fun ρ => (c ρ).bind fun k => if k = true then a ρ else b ρ
section
variable {X : Cx} {E : XK} {K : PySem.W.Frag} {ea eb ec : Expr} {rest : List Expr} {pos : Pos} {t u : TE} {tc : TT} {a b : Env → R D} {c : Env → R Bool} {op : PySem.BoolOp}
theorem asB_bind [Glo] {α : Type} {F H : Hp} {P : α → Hp → Hp → Prop} {d : D} {v : V} {f : Bool → R α} (r : Rep K F d v) (w : W F H P ((asB d).bind f) E) : ∃ k, v = .bl k ∧ W F H P (f k) E := by
  cases d with
  | bl b => exact ⟨b, rep_bl r, w⟩
  | non => exact w.elim
  | int _ => exact w.elim
  | str _ => exact w.elim
  | tup _ => exact w.elim
  | lst _ => exact w.elim
  | dct _ => exact w.elim
  | scr _ => exact w.elim
theorem d_one [Glo] (h : DE X K E ea t a) : DE X K E (.BoolOp op [ea] pos) t a := ⟨pe_one h.pe, h.ev⟩
theorem d_and [Glo] (h : DE X K E ea t a) (h2 : DE X K E (.BoolOp .And (eb :: rest) pos) u b) : DE X K E (.BoolOp .And (ea :: eb :: rest) pos) (tAndV t u) (andV a b) := by
  refine ⟨pe_and h.pe h2.pe, ?_⟩
  intro F0 B F σ H ρ Q ok w
  refine h.ev F0 B F σ H ρ _ ok (W.imp (W.bind w) fun x F1 H1 g1 w1 v r1 => ?_)
  obtain ⟨k, e, w2⟩ := asB_bind r1 w1
  refine ⟨k, e, ?_⟩
  cases k with
  | true => exact h2.ev F0 B F1 σ H1 ρ _ (ok.grow g1) w2
  | false => exact W.ok g1.fh w2 _ rfl
theorem d_or [Glo] (h : DE X K E ea t a) (h2 : DE X K E (.BoolOp .Or (eb :: rest) pos) u b) : DE X K E (.BoolOp .Or (ea :: eb :: rest) pos) (tOrV t u) (orV a b) := by
  refine ⟨pe_or h.pe h2.pe, ?_⟩
  intro F0 B F σ H ρ Q ok w
  refine h.ev F0 B F σ H ρ _ ok (W.imp (W.bind w) fun x F1 H1 g1 w1 v r1 => ?_)
  obtain ⟨k, e, w2⟩ := asB_bind r1 w1
  refine ⟨k, e, ?_⟩
  cases k with
  | true => exact W.ok g1.fh w2 _ rfl
  | false => exact h2.ev F0 B F1 σ H1 ρ _ (ok.grow g1) w2
theorem d_not [Glo] (h : DE X K E ea t a) : DE X K E (.UnaryOp .Not ea pos) (tNotV t) (notV a) := by
  refine ⟨pe_not h.pe, ?_⟩
  intro F0 B F σ H ρ Q ok w
  refine h.ev F0 B F σ H ρ _ ok (W.imp (W.bind w) fun x F1 H1 g1 w1 v r1 => ?_)
  obtain ⟨k, e, w2⟩ := asB_bind r1 w1
  exact ⟨k, e, W.ok g1.fh w2 _ rfl⟩
theorem d_if [Glo] (hc : DT X K E ec tc c) (h : DE X K E ea t a) (h2 : DE X K E eb u b) : DE X K E (.IfExp ec ea eb pos) (tIf tc t u) (ifV c a b) := by
  refine ⟨pe_ifExp hc.pt h.pe h2.pe, ?_⟩
  intro F0 B F σ H ρ Q ok w
  refine hc.ev F0 B F σ H ρ _ ok (W.imp (W.bind w) fun k F1 H1 g1 w1 => ?_)
  cases k with
  | true => exact h.ev F0 B F1 σ H1 ρ _ (ok.grow g1) w1
  | false => exact h2.ev F0 B F1 σ H1 ρ _ (ok.grow g1) w1

/-! ### chains -/
def chn (f g : D → D → R D) (a b c : Env → R D) : Env → R D := fun ρ => (a ρ).bind fun x => (b ρ).bind fun y => (f x y).bind fun z => (asB z).bind fun k => if k = true then (c ρ).bind fun w => g y w else .ok (.bl false)
end
section
variable {X : Cx} {E : XK} {K : PySem.W.Frag} {ea eb ec : Expr} {pos : Pos} {ta tb tc : TE} {a b c : Env → R D} {r r' : R2} {f g : D → D → R D} {op op' : CmpOp}
theorem ev_chn [Glo] (o : OpD K r f) (n : NoEr f) (o' : OpD K r' g) (n' : NoEr g) (ha : EvE K E ta a) (hb : EvE K E tb b) (hc : EvE K E tc c) : EvE K E (tChain r r' ta tb tc) (chn f g a b c) := by
  intro F0 B F σ H ρ Q ok w
  refine ha F0 B F σ H ρ _ ok (W.imp (W.bind w) fun x F1 H1 g1 w1 v r1 => ?_)
  refine hb F0 B F1 σ H1 ρ _ (ok.grow g1) (W.imp (W.bind w1) fun y F2 H2 g2 w2 u r2 => ?_)
  refine o F2 H2 x y v u _ g2.fh (Rep.mono g2.ff _ _ r1) r2 E (n x y) (W.imp (W.bind w2) fun z F3 H3 g3 w3 q r3 => ?_)
  obtain ⟨k, e, w4⟩ := asB_bind r3 w3
  refine ⟨k, e, ?_⟩
  cases k with
  | true =>
    refine hc F0 B F3 σ H3 ρ _ (((ok.grow g1).grow g2).grow g3) (W.imp (W.bind w4) fun s F4 H4 g4 w5 t r4 => ?_)
    exact o' F4 H4 y s u t Q g4.fh (Rep.mono (g3.ff.trans g4.ff) _ _ r2) r4 E (n' y s) w5
  | false => exact W.ok g3.fh w4 _ rfl
theorem d_chn [Glo] (o : OpD K r f) (ho : OpR X (compareOp op) r) (n : NoEr f) (o' : OpD K r' g) (ho' : OpR X (compareOp op') r') (n' : NoEr g) (ha : DE X K E ea ta a) (hb : DE X K E eb tb b) (hc : DE X K E ec tc c) (hm : lastMarks [op, op'] [eb, ec] = false := by rfl) :
    DE X K E (.Compare ea [op, op'] [eb, ec] pos) (tChain r r' ta tb tc) (chn f g a b c) := ⟨pe_chain ho ho' ha.pe hb.pe hc.pe hm, ev_chn o n o' n' ha.ev hb.ev hc.ev⟩
end

/-! ### arguments, displays -/
def aNil : Env → R (List D) := fun _ => .ok []
def aCons (a : Env → R D) (r : Env → R (List D)) : Env → R (List D) := fun ρ => (a ρ).bind fun x => (r ρ).bind fun xs => .ok (x :: xs)
def line : Nat := 16777216
theorem line_eq : line = sizeLine := by rw [sizeLine_eq]; rfl
def mkT (ds : List D) : R D := if ds.length ≤ line then .ok (.tup ds) else .un
def mkL (ds : List D) : R D := if ds.length ≤ line then .ok (.lst ds) else .un
def tupV (a : Env → R (List D)) : Env → R D := fun ρ => (a ρ).bind mkT
def lstV (a : Env → R (List D)) : Env → R D := fun ρ => (a ρ).bind mkL
section
variable {X : Cx} {E : XK} {K : PySem.W.Frag} {e : Expr} {es : List Expr} {pos : Pos} {te : TE} {t : TA} {a : Env → R D} {r : Env → R (List D)}
theorem a_nil [Glo] : DA X K E [] tNil aNil := ⟨pa_nil, fun F0 B F σ H ρ Q ok w => W.ok ok.fh w [] rfl⟩
theorem a_cons [Glo] (h : DE X K E e te a) (hr : DA X K E es t r) (hs : starEach (e :: es) X.env = (false, eval e X.env) :: starEach es X.env := by rfl) : DA X K E (e :: es) (tCons te t) (aCons a r) := by
  refine ⟨pa_cons h.pe hr.pa hs, ?_⟩
  intro F0 B F σ H ρ Q ok w
  refine h.ev F0 B F σ H ρ _ ok (W.imp (W.bind w) fun x F1 H1 g1 w1 v r1 => ?_)
  refine hr.ev F0 B F1 σ H1 ρ _ (ok.grow g1) (W.imp (W.bind w1) fun xs F2 H2 g2 w2 vs r2 => ?_)
  exact W.ok g2.fh w2 _ ⟨v, vs, rfl, Rep.mono g2.ff _ _ r1, r2⟩
theorem rep_tup_new {F : Hp} {p : Addr} {ds : List D} {vs : List V} (hF : F p = none) (r : Reps K F ds vs) (hl : vs.length ≤ sizeLine) : Rep K (upd F p (.tup vs)) (.tup ds) (.ref p) :=
  ⟨p, vs, rfl, SqT.of upd_same, hl, Reps.mono (same_new hF) _ _ r⟩
theorem rep_lst_new {F : Hp} {p : Addr} {ds : List D} {vs : List V} (hF : F p = none) (r : Reps K F ds vs) (hl : vs.length ≤ sizeLine) : Rep K (upd F p (.lst vs)) (.lst ds) (.ref p) :=
  ⟨p, vs, rfl, upd_same, hl, Reps.mono (same_new hF) _ _ r⟩
theorem mkT_ok [Glo] {F H : Hp} {Q : VK} {ds : List D} {vs : List V} (s : Same F H) (r : Reps K F ds vs) (w : W F H (PV K Q) (mkT ds) E) : vs.length ≤ sizeLine ∧ ∀ p, H p = none → Q (.ref p) (upd H p (.tup vs)) := by
  unfold mkT at w
  split at w
  · rename_i hl
    have hl : vs.length ≤ sizeLine := by rw [← line_eq, ← Reps.length r]; exact hl
    exact ⟨hl, fun p hp => w _ _ (Gr.new s hp) _ (rep_tup_new (s.free hp) r hl)⟩
  · exact w.elim
theorem mkL_ok [Glo] {F H : Hp} {Q : VK} {ds : List D} {vs : List V} (s : Same F H) (r : Reps K F ds vs) (w : W F H (PV K Q) (mkL ds) E) : vs.length ≤ sizeLine ∧ ∀ p, H p = none → Q (.ref p) (upd H p (.lst vs)) := by
  unfold mkL at w
  split at w
  · rename_i hl
    have hl : vs.length ≤ sizeLine := by rw [← line_eq, ← Reps.length r]; exact hl
    exact ⟨hl, fun p hp => w _ _ (Gr.new s hp) _ (rep_lst_new (s.free hp) r hl)⟩
  · exact w.elim
theorem d_tup [Glo] {x1} (h : DA X K E es t r) : DE X K E (.Tuple es x1 pos) (tTup t) (tupV r) := by
  refine ⟨pe_tup h.pa, ?_⟩
  intro F0 B F σ H ρ Q ok w
  exact h.ev F0 B F σ H ρ _ ok (W.imp (W.bind w) fun ds F1 H1 g1 w1 vs r1 => mkT_ok g1.fh r1 w1)
theorem d_lst [Glo] (h : DA X K E es t r) : DE X K E (.List es pos) (tLst t) (lstV r) := by
  refine ⟨pe_lst h.pa, ?_⟩
  intro F0 B F σ H ρ Q ok w
  exact h.ev F0 B F σ H ρ _ ok (W.imp (W.bind w) fun ds F1 H1 g1 w1 vs r1 => mkL_ok g1.fh r1 w1)
end

/-! ### calls of built-ins, of defs -/
def CallD [Glo] (K : PySem.W.Frag) (r : List V → Hp → VK → Prop) (f : List D → R D) : Prop :=
  ∀ (F H : Hp) (xs : List D) (vs : List V) (Q : VK), Same F H → Reps K F xs vs → ∀ E : XK, W F H (PV K Q) (f xs) E → r vs H Q
def calls (f : List D → R D) (a : Env → R (List D)) : Env → R D := fun ρ => (a ρ).bind f
section
variable {X : Cx} {E : XK} {K : PySem.W.Frag} {e : Expr} {es : List Expr} {pos p : Pos} {t : TA} {a : Env → R (List D)} {r : List V → Hp → VK → Prop} {f : List D → R D} {x : Str} {id T : String}
theorem ev_callB [Glo] (h : EvA K E t a) (c : CallD K r f) : EvE K E (tCB r t) (calls f a) := by
  intro F0 B F σ H ρ Q ok w
  exact h F0 B F σ H ρ _ ok (W.imp (W.bind w) fun ds F1 H1 g1 w1 vs r1 => c F1 H1 ds vs Q g1.fh r1 E w1)
theorem d_callB [Glo] (c : CallD K r f) (hc : CallR X (.builtin id) r) (hg : Gl X x) (hm : X.mg x = none) (hv : bootBuiltins x = some (.builtin id)) (ha : DA X K E (e :: es) t a) (hn : x ≠ "__name__" := by decide) (hdb : (x == ("__debug__" : Str)) = false := by decide) (hs : starEach (e :: es) X.env = (false, eval e X.env) :: starEach es X.env := by rfl)
    (hp : (backTo pos (starEach es X.env)).any (·.1) = false := by rfl) :
    DE X K E (.Call (.Name x p) (e :: es) [] pos) (tCB r t) (calls f a) := ⟨pe_callB hc hg hm hv ha.pa hn hdb hs hp, ev_callB ha.ev c⟩
theorem d_callTy [Glo] (c : CallD K r f) (hc : CallR X (.type T) r) (hg : Gl X x) (hm : X.mg x = none) (hv : bootBuiltins x = some (.type T)) (ha : DA X K E (e :: es) t a) (hn : x ≠ "__name__" := by decide) (hdb : (x == ("__debug__" : Str)) = false := by decide) (hs : starEach (e :: es) X.env = (false, eval e X.env) :: starEach es X.env := by rfl)
    (hp : (backTo pos (starEach es X.env)).any (·.1) = false := by rfl) :
    DE X K E (.Call (.Name x p) (e :: es) [] pos) (tCB r t) (calls f a) := ⟨pe_callTy hc hg hm hv ha.pa hn hdb hs hp, ev_callB ha.ev c⟩
/-- the promise of a def over data -/
def spD [Glo] (K : PySem.W.Frag) (n : Nat) (f : List D → R D) : Sp := fun vs H Q E => ∃ (F : Hp) (ds : List D), ds.length = n ∧ LamX.Tabs Glo.T H ∧ NT F ∧ Same F H ∧ Reps K F ds vs ∧ W F H (PV K Q) (f ds) E
/-- a def of the text that keeps it -/
def Fn [Glo] (P : Program) (w : World) (K : PySem.W.Frag) (mg : Str → Option Value) (base : Heap) (x : Str) (k n : Nat) (f : List D → R D) : Prop :=
  ∃ (ad : Addr) (fd : FuncData) (ps : List Str), FnOk P w K mg base (L2.CX P w) k ad fd ps (spD K n f) ∧ mg x = some (.ref ad) ∧ PySem.W.keepIn K (.ref ad) = true ∧ Binds K fd ps [] ∧ ps.length = n
def callF (n : Nat) (f : List D → R D) (a : Env → R (List D)) : Env → R D := fun ρ => (a ρ).bind fun ds => if ds.length = n then f ds else .un
theorem d_call [Glo] {k n : Nat} (F : Fn X.prog X.w K X.mg X.base x k n f) (hr : Room k X.A) (hg : Gl X x) (hx : Passes (L2.CX X.prog X.w) X E) (ha : DA X K E (e :: es) t a)
    (hd : (x == ("__debug__" : Str)) = false := by decide) (hs : starEach (e :: es) X.env = (false, eval e X.env) :: starEach es X.env := by rfl) (hp : (backTo pos (starEach es X.env)).any (·.1) = false := by rfl) (hK : X.K = K := by rfl) :
    DE X K E (.Call (.Name x p) (e :: es) [] pos) (tCall (spD K n f) [] E t) (callF n f a) := by
  subst hK
  obtain ⟨ad, fd, ps, F, hm, hk, hb, hn⟩ := F
  refine ⟨pe_call F hr hg hm hk hb .nil hx ha.pa hd hs hp, ?_⟩
  intro F0 B F σ H ρ Q ok w
  refine ha.ev F0 B F σ H ρ _ ok (W.imp (W.bind w) fun ds F1 H1 g1 w1 vs r1 => ?_)
  by_cases hl : ds.length = n
  · have w1 : W F1 H1 (PV X.K Q) (if ds.length = n then f ds else .un) E := w1
    rw [if_pos hl] at w1
    show spD X.K n f (vs ++ []) H1 Q E
    rw [List.append_nil]
    exact ⟨F1, ds, hl, g1.tb (ok.gr.tb ok.tb), g1.nt (ok.gr.nt ok.nt), g1.fh, r1, w1⟩
  · have w1 : W F1 H1 (PV X.K Q) (if ds.length = n then f ds else .un) E := w1
    rw [if_neg hl] at w1
    exact w1.elim
end
end DD

namespace DD
open PySem PySem.Spec PyProof.Rows L2

/-! ### statements -/
inductive Out where
  | nx (ρ : Env)
  | rt (d : D)
  | bk (ρ : Env)
  | ct (ρ : Env)
def WS [Glo] (K : PySem.W.Frag) (F0 B : Hp) (Dn : Ends) (r : R Out) (E : XK) : Prop :=
  match r with
  | .un => False
  | .er C => ∀ F' H', Gr F0 B F' H' → E (.ref (Glo.adr C)) none H'
  | .ok (.nx ρ) => ∀ F' σ' H', Ok K F0 B F' σ' H' ρ → Dn.nx σ' H'
  | .ok (.bk ρ) => ∀ F' σ' H', Ok K F0 B F' σ' H' ρ → Dn.bk σ' H'
  | .ok (.ct ρ) => ∀ F' σ' H', Ok K F0 B F' σ' H' ρ → Dn.ct σ' H'
  | .ok (.rt d) => ∀ F' H' v, Gr F0 B F' H' → Rep K F' d v → Dn.rt v H'
def ExS [Glo] (K : PySem.W.Frag) (E : XK) (t : TS) (φ : Env → R Out) : Prop :=
  ∀ (F0 B F : Hp) (σ : L2.St) (H : Hp) (ρ : Env) (Dn : Ends), Ok K F0 B F σ H ρ → WS K F0 B Dn (φ ρ) E → t Dn σ H
structure DS [Glo] (X : Cx) (K : PySem.W.Frag) (E : XK) (st : Stmt) (t : TS) (φ : Env → R Out) : Prop where
  ps : PS X st t
  ev : ExS K E t φ
structure DSs [Glo] (X : Cx) (K : PySem.W.Frag) (E : XK) (st : List Stmt) (t : TS) (φ : Env → R Out) : Prop where
  ps : PSs X st t
  ev : ExS K E t φ
theorem WS.bind [Glo] {α : Type} {K : PySem.W.Frag} {F0 B F H : Hp} {Dn : Ends} {m : R α} {f : α → R Out} {E : XK} (g : Gr F0 B F H) (h : WS K F0 B Dn (m.bind f) E) : W F H (fun a _ _ => WS K F0 B Dn (f a) E) m E := by
  cases m with
  | un => exact h
  | er C => exact fun F' H' g' => h F' H' (g.trans g')
  | ok a => exact fun _ _ _ => h
def skipS : Env → R Out := fun ρ => .ok (.nx ρ)
def brkS : Env → R Out := fun ρ => .ok (.bk ρ)
def cntS : Env → R Out := fun ρ => .ok (.ct ρ)
def dropS (a : Env → R D) : Env → R Out := fun ρ => (a ρ).bind fun _ => .ok (.nx ρ)
def retS (a : Env → R D) : Env → R Out := fun ρ => (a ρ).bind fun d => .ok (.rt d)
def setS (i : Nat) (a : Env → R D) : Env → R Out := fun ρ => (a ρ).bind fun d => .ok (.nx (ρ.set i (.d d)))
def seqS (a b : Env → R Out) : Env → R Out := fun ρ => (a ρ).bind fun o => match o with
  | .nx ρ' => b ρ'
  | .rt d => .ok (.rt d)
  | .bk ρ' => .ok (.bk ρ')
  | .ct ρ' => .ok (.ct ρ')
def ifS (c : Env → R Bool) (a b : Env → R Out) : Env → R Out := fun ρ => (c ρ).bind fun k => if k = true then a ρ else b ρ
section
variable {X : Cx} {E : XK} {K : PySem.W.Frag} {st : Stmt} {sts : List Stmt} {e : Expr} {pos : Pos} {te : TE} {t u : TS} {a : Env → R D} {b c : Env → R Out}
theorem ex_nx [Glo] : ExS K E tNext skipS := fun F0 B F σ H ρ Dn ok w => w F σ H ok
theorem s_pass [Glo] : DS X K E (.Pass pos) tNext skipS := ⟨ps_pass, ex_nx⟩
theorem s_brk [Glo] : DS X K E (.Break pos) tBreak brkS := ⟨ps_break, fun F0 B F σ H ρ Dn ok w => w F σ H ok⟩
theorem s_cnt [Glo] : DS X K E (.Continue pos) tCont cntS := ⟨ps_continue, fun F0 B F σ H ρ Dn ok w => w F σ H ok⟩
theorem s_expr [Glo] (h : DE X K E e te a) (hs : swapsWith e none pos.line X.env = pure false := by rfl) : DS X K E (.Expr e pos) (tDrop te) (dropS a) :=
  ⟨ps_expr h.pe hs, fun F0 B F σ H ρ Dn ok w => h.ev F0 B F σ H ρ _ ok (W.imp (WS.bind ok.gr w) fun d F1 H1 g1 w1 v r1 => w1 F1 σ H1 (ok.grow g1))⟩
theorem s_ret [Glo] (h : DE X K E e te a) : DS X K E (.Return (some e) pos) (tRet te) (retS a) :=
  ⟨ps_ret h.pe, fun F0 B F σ H ρ Dn ok w => h.ev F0 B F σ H ρ _ ok (W.imp (WS.bind ok.gr w) fun d F1 H1 g1 w1 v r1 => w1 F1 H1 v (ok.gr.trans g1) r1)⟩
theorem s_retN [Glo] : DS X K E (.Return none pos) tRetN (retS (cst .non)) :=
  ⟨ps_retN, fun F0 B F σ H ρ Dn ok w => w F H .non ok.gr rfl⟩
theorem ss_nil [Glo] : DSs X K E [] tNext skipS := ⟨pss_nil, ex_nx⟩
theorem ex_seq [Glo] (h1 : ExS K E t b) (h2 : ExS K E u c) : ExS K E (tSeq t u) (seqS b c) := by
  intro F0 B F σ H ρ Dn ok w
  refine h1 F0 B F σ H ρ _ ok ?_
  unfold seqS at w
  cases hb : b ρ with
  | un => rw [hb] at w; exact w
  | er C => rw [hb] at w; exact w
  | ok o =>
    rw [hb] at w
    cases o with
    | nx ρ' => exact fun F' σ' H' ok' => h2 F0 B F' σ' H' ρ' Dn ok' w
    | rt d => exact w
    | bk ρ' => exact w
    | ct ρ' => exact w
theorem ss_cons [Glo] (h1 : DS X K E st t b) (h2 : DSs X K E sts u c) : DSs X K E (st :: sts) (tSeq t u) (seqS b c) := ⟨pss_cons h1.ps h2.ps, ex_seq h1.ev h2.ev⟩
theorem ss_one [Glo] (h1 : DS X K E st t b) : DSs X K E [st] t b := ⟨pss_one h1.ps, h1.ev⟩
theorem s_if [Glo] {ce : Expr} {sa sb : List Stmt} {tc : TT} {cc : Env → R Bool} (hc : DT X K E ce tc cc) (ha : DSs X K E sa t b) (hb : DSs X K E sb u c) : DS X K E (.If ce sa sb pos) (tIfS tc t u) (ifS cc b c) := by
  refine ⟨ps_if hc.pt ha.ps hb.ps, ?_⟩
  intro F0 B F σ H ρ Dn ok w
  refine hc.ev F0 B F σ H ρ _ ok (W.imp (WS.bind ok.gr w) fun k F1 H1 g1 w1 => ?_)
  cases k with
  | true => exact ha.ev F0 B F1 σ H1 ρ Dn (ok.grow g1) w1
  | false => exact hb.ev F0 B F1 σ H1 ρ Dn (ok.grow g1) w1
end

/-! ### targets -/
def EvG [Glo] (K : PySem.W.Frag) (is : List Nat) (g : TG) (tgt : D → Env → R Env) : Prop :=
  ∀ (F0 B F : Hp) (σ : L2.St) (H : Hp) (ρ : Env) (x : D) (v : V) (Q : L2.St → Hp → Prop), Ok K F0 B F σ H ρ → Rep K F x v → ∀ ρ', tgt x ρ = .ok ρ' → (∀ σ', Ok K F0 B F σ' H ρ' → wipe σ' is = wipe σ is → Q σ' H) → g v σ H Q
structure DG [Glo] (X : Cx) (K : PySem.W.Frag) (is : List Nat) (e : Expr) (g : TG) (tgt : D → Env → R Env) : Prop where
  pg : PG X e g
  ev : EvG K is g tgt
def to1 (i : Nat) : D → Env → R Env := fun x ρ => .ok (ρ.set i (.d x))
def toAll : List Nat → List D → Env → R Env
  | [], [], ρ => .ok ρ
  | i :: is, x :: xs, ρ => toAll is xs (ρ.set i (.d x))
  | _, _, _ => .un
def toN (is : List Nat) : D → Env → R Env := fun x ρ => match x with
  | .tup xs => toAll is xs ρ
  | _ => .un
theorem wipe_get {σ : L2.St} : ∀ {vs : List Nat} {i : Nat}, i ∉ vs → (wipe σ vs)[i]? = σ[i]?
  | [], i, _ => rfl
  | v :: vs, i, h => by
    show ((wipe σ vs).set v none)[i]? = σ[i]?
    rw [List.getElem?_set_ne (fun e => h (by rw [← e]; exact List.mem_cons_self))]
    exact wipe_get (fun m => h (List.mem_cons_of_mem _ m))
theorem wipe_in {σ : L2.St} : ∀ {vs : List Nat} {i : Nat}, i ∈ vs → i < σ.length → (wipe σ vs)[i]? = some none
  | v :: vs, i, h, hl => by
    show ((wipe σ vs).set v none)[i]? = some none
    by_cases e : v = i
    · subst e
      exact List.getElem?_set_self (by rw [L2.wipe_length]; exact hl)
    · rw [List.getElem?_set_ne e]
      refine wipe_in ?_ hl
      rcases List.mem_cons.mp h with z | z
      · exact absurd z.symm e
      · exact z
theorem wipe_set {σ : L2.St} {vs : List Nat} {i : Nat} {o : Option V} (h : i ∈ vs) : wipe (σ.set i o) vs = wipe σ vs := by
  apply List.ext_getElem?
  intro j
  by_cases hj : j ∈ vs
  · by_cases hl : j < σ.length
    · rw [wipe_in hj hl, wipe_in hj (by simpa using hl)]
    · rw [List.getElem?_eq_none (by rw [L2.wipe_length]; simpa using hl), List.getElem?_eq_none (by rw [L2.wipe_length]; simpa using hl)]
  · rw [wipe_get hj, wipe_get hj, List.getElem?_set_ne (fun e => hj (by rw [← e]; exact h))]
section
variable {X : Cx} {K : PySem.W.Frag}
theorem eg_name [Glo] {i : Nat} {is : List Nat} (h : i ∈ is) : EvG K is (gName i) (to1 i) := by
  intro F0 B F σ H ρ x v Q ok r ρ' e q
  cases e
  exact q _ (ok.set i r) (wipe_set h)
theorem g_name [Glo] {i : Nat} {x : Str} {pos : Pos} (hN : X.N.Nodup) (hi : X.N[i]? = some x) (hx : Loc X.env.scope x) (hf : X.fn x = true ∨ X.env.scope.names.lookup x = some .local := by first | exact .inl rfl | exact .inr rfl | assumption) {is : List Nat} (h : i ∈ is := by decide) :
    DG X K is (.Name x pos) (gName i) (to1 i) := ⟨pg_name hN hi hx hf, eg_name h⟩
/-- names of a tuple target, from the left -/
inductive Names' : List Nat → TGs → Prop
  | nil : Names' [] gNil
  | cons {i : Nat} {is : List Nat} {t : TGs} : Names' is t → Names' (i :: is) (gCons (gName i) t)
theorem eg_all [Glo] {is' : List Nat} : ∀ {is : List Nat} {t : TGs}, Names' is t → (∀ i ∈ is, i ∈ is') → ∀ (F0 B F : Hp) (σ : L2.St) (H : Hp) (ρ : Env) (xs : List D) (vs : List V) (Q : L2.St → Hp → Prop), Ok K F0 B F σ H ρ → Reps K F xs vs → ∀ ρ', toAll is xs ρ = .ok ρ' →
    (∀ σ', Ok K F0 B F σ' H ρ' → wipe σ' is' = wipe σ is' → Q σ' H) → t vs σ H Q := by
  intro is t h
  induction h with
  | nil =>
    intro _ F0 B F σ H ρ xs vs Q ok r ρ' e q
    cases xs with
    | nil =>
      cases e
      exact ⟨r, q σ ok rfl⟩
    | cons x xs => cases e
  | @cons i is t _ ih =>
    intro hs F0 B F σ H ρ xs vs Q ok r ρ' e q
    cases xs with
    | nil => cases e
    | cons x xs =>
      obtain ⟨v, r', rfl, r1, r2⟩ := r
      refine ⟨v, r', rfl, ?_⟩
      refine ih (fun j hj => hs j (List.mem_cons_of_mem _ hj)) F0 B F _ H _ xs r' Q (ok.set i r1) r2 ρ' e fun σ' ok' e' => q σ' ok' ?_
      rw [e', wipe_set (hs i List.mem_cons_self)]
theorem toAll_len : ∀ {is : List Nat} {xs : List D} {ρ ρ' : Env}, toAll is xs ρ = .ok ρ' → xs.length = is.length
  | [], [], _, _, _ => rfl
  | [], _ :: _, _, _, e => by cases e
  | _ :: _, [], _, _, e => by cases e
  | i :: is, x :: xs, ρ, ρ', e => by simp [toAll_len (is := is) (xs := xs) e]
theorem eg_tup [Glo] {n : Nat} {is is' : List Nat} {t : TGs} (h : Names' is t) (hn : is.length = n) (hs : ∀ i ∈ is, i ∈ is') : EvG K is' (gTup K n t) (toN is) := by
  intro F0 B F σ H ρ x v Q ok r ρ' e q
  cases x with
  | tup xs =>
    obtain ⟨a, vs, rfl, h1, h2, h3⟩ := r
    refine ⟨a, vs, rfl, Same.sqT ok.fh h1, ?_, ?_⟩
    · rw [← Reps.length h3, toAll_len e, hn]
    · exact eg_all h hs F0 B F σ H ρ xs vs Q ok h3 ρ' e q
  | non => cases e
  | bl _ => cases e
  | int _ => cases e
  | str _ => cases e
  | lst _ => cases e
  | dct _ => cases e
  | scr _ => cases e
end

/-! ### what is walked -/
def ItOk [Glo] (K : PySem.W.Frag) (J : It) (F : Hp) (items : List D) : Prop := items.length ≤ sizeLine ∧
  ∀ (F1 H : Hp), Same F F1 → Same F1 H → (∀ (i : Nat) (d : D), items[i]? = some d → J.go i H ∧ ∀ x H', J.yld i H x H' → ∃ F2, Gr F1 H F2 H' ∧ Rep K F2 d x) ∧ J.stop items.length H
def EvI [Glo] (K : PySem.W.Frag) (E : XK) (wi : TI) (φ : Env → R (List D)) : Prop :=
  ∀ (F0 B F : Hp) (σ : L2.St) (H : Hp) (ρ : Env) (Rr : It → Hp → Prop), Ok K F0 B F σ H ρ → W F H (fun items F' H' => ∀ J, ItOk K J F' items → Rr J H') (φ ρ) E → wi σ H Rr
structure DI [Glo] (X : Cx) (K : PySem.W.Frag) (E : XK) (tg iter : Expr) (wi : TI) (φ : Env → R (List D)) : Prop where
  pi : PI X tg iter wi
  ev : EvI K E wi φ

/-! ### for -/
def forF (tgt : D → Env → R Env) (body : Env → R Out) : List D → Env → R Out
  | [], ρ => .ok (.nx ρ)
  | x :: xs, ρ => (tgt x ρ).bind fun ρ1 => (body ρ1).bind fun o => match o with
    | .nx ρ2 => forF tgt body xs ρ2
    | .ct ρ2 => forF tgt body xs ρ2
    | .bk ρ2 => .ok (.nx ρ2)
    | .rt d => .ok (.rt d)
def forS (it : Env → R (List D)) (tgt : D → Env → R Env) (body : Env → R Out) : Env → R Out := fun ρ => (it ρ).bind fun xs => forF tgt body xs ρ
theorem tgt_ok [Glo] {m : R Env} {K : PySem.W.Frag} {F0 B : Hp} {Dn : Ends} {f : Env → R Out} {E : XK} (n : ∀ c, m ≠ .er c) (h : WS K F0 B Dn (m.bind f) E) : ∃ ρ', m = .ok ρ' ∧ WS K F0 B Dn (f ρ') E := by
  cases m with
  | un => exact h.elim
  | er C => exact absurd rfl (n C)
  | ok a => exact ⟨a, rfl, h⟩
def NoErG (tgt : D → Env → R Env) : Prop := ∀ x ρ c, tgt x ρ ≠ .er c
theorem noErG1 {i : Nat} : NoErG (to1 i) := fun _ _ _ e => nomatch e
theorem noErAll : ∀ (is : List Nat) (xs : List D) (ρ : Env) (c : Addr), toAll is xs ρ ≠ .er c
  | [], [], _, _ => fun e => nomatch e
  | [], _ :: _, _, _ => fun e => nomatch e
  | _ :: _, [], _, _ => fun e => nomatch e
  | i :: is, x :: xs, ρ, c => noErAll is xs _ c
theorem noErGN {is : List Nat} : NoErG (toN is) := fun x ρ c e => by
  cases x with
  | tup xs => exact noErAll is xs ρ c e
  | non => cases e
  | bl _ => cases e
  | int _ => cases e
  | str _ => cases e
  | lst _ => cases e
  | dct _ => cases e
  | scr _ => cases e
section
variable {X : Cx} {E : XK} {K : PySem.W.Frag}
theorem ex_for [Glo] {is : List Nat} {wi : TI} {g : TG} {tb : TS} {it : Env → R (List D)} {tgt : D → Env → R Env} {body : Env → R Out} (hi : EvI K E wi it) (hg : EvG K is g tgt) (n : NoErG tgt) (hb : ExS K E tb body) : ExS K E (tFor wi g tb) (forS it tgt body) := by
  intro F0 B F σ H ρ Dn ok w
  refine hi F0 B F σ H ρ _ ok (W.imp (WS.bind ok.gr w) fun items F1 H1 g1 w1 J hJ => ?_)
  refine ⟨fun i m σ' H' => m = items.length - i ∧ i ≤ items.length ∧ ∃ F' ρ', Same F1 F' ∧ Ok K F0 B F' σ' H' ρ' ∧ WS K F0 B Dn (forF tgt body (items.drop i) ρ') E,
    ⟨items.length, by simp, Nat.zero_le _, F1, ρ, Same.refl _, ok.grow g1, w1⟩, ?_⟩
  rintro i m σ' H' ⟨rfl, hi', F', ρ', s', ok', w'⟩
  obtain ⟨hsz, hJ⟩ := hJ
  obtain ⟨hgo, hstop⟩ := hJ F' H' s' ok'.fh
  by_cases hlt : i < items.length
  · have hd : items[i]? = some items[i] := List.getElem?_eq_getElem hlt
    obtain ⟨go, yl⟩ := hgo i _ hd
    rw [List.drop_eq_getElem_cons hlt] at w'
    refine .inr ⟨go, fun σ2 H2 => ∃ F2 ρ2, Same F1 F2 ∧ Ok K F0 B F2 σ2 H2 ρ2 ∧ WS K F0 B Dn (forF tgt body (items.drop (i + 1)) ρ2) E, fun σ2 H2 h2 => ⟨items.length - (i + 1), by omega, rfl, hlt, h2⟩, fun x H2 hy => ?_⟩
    obtain ⟨F2, g2, r2⟩ := yl x H2 hy
    obtain ⟨ρ1, e1, w2⟩ := tgt_ok (n _ _) w'
    refine hg F0 B F2 σ' H2 ρ' items[i] x _ (ok'.grow g2) r2 ρ1 e1 fun σ3 ok3 _ => ?_
    -- the body; F2 bears F1
    have key : ∀ (Fz : Hp), True := fun _ => trivial
    refine hb F2 B F2 σ3 H2 ρ1 _ ⟨⟨ok3.gr.hh, ok3.gr.tb, id, Same.refl _, ok3.gr.fh, fun a o e => .inl e⟩, ok3.tb, ok3.gr.nt ok3.nt, ok3.len, ok3.sl, ok3.dj⟩ ?_
    -- weaken from F0 to F2
    have up : ∀ {Fa Ha : Hp}, Gr F2 B Fa Ha → Gr F0 B Fa Ha := fun {Fa Ha} g => ⟨g.hh, g.tb, fun t => g.nt (ok3.gr.nt t), ok3.gr.ff.trans g.ff, g.fh, fun a o e => by
      rcases g.nw a o e with z | z
      · exact ok3.gr.nw a o z
      · exact .inr z⟩
    have upO : ∀ {Fa : Hp} {σa : L2.St} {Ha : Hp} {ρa : Env}, Ok K F2 B Fa σa Ha ρa → Ok K F0 B Fa σa Ha ρa := fun o => ⟨up o.gr, o.tb, ok3.nt, o.len, o.sl, o.dj⟩
    cases hbd : body ρ1 with
    | un => rw [hbd] at w2; exact w2
    | er C => rw [hbd] at w2; exact fun Fa Ha ga => w2 Fa Ha (up ga)
    | ok o =>
      rw [hbd] at w2
      cases o with
      | nx ρ2 => exact fun Fa σa Ha oa => ⟨Fa, ρ2, (s'.trans g2.ff).trans oa.gr.ff, upO oa, w2⟩
      | ct ρ2 => exact fun Fa σa Ha oa => ⟨Fa, ρ2, (s'.trans g2.ff).trans oa.gr.ff, upO oa, w2⟩
      | bk ρ2 => exact fun Fa σa Ha oa => w2 Fa σa Ha (upO oa)
      | rt d => exact fun Fa Ha v ga ra => w2 Fa Ha v (up ga) ra
  · have e : i = items.length := by omega
    subst e
    rw [List.drop_length] at w'
    exact .inl ⟨hstop, w' F' σ' H' ok'⟩
theorem s_for [Glo] {is : List Nat} {tg iter : Expr} {body : List Stmt} {pos : Pos} {wi : TI} {g : TG} {tb : TS} {it : Env → R (List D)} {tgt : D → Env → R Env} {bd : Env → R Out} (hp : PassesOwn (model X.prog X.w) X.A X.env X.xe) (hc : X.calm = true)
    (hi : DI X K E tg iter wi it) (hg : DG X K is tg g tgt) (n : NoErG tgt) (hb : DSs X K E body tb bd) (hs : ∀ x, foldedSetIterable iter X.env x = pure x := by intro _; rfl) : DS X K E (.For tg iter body [] pos) (tFor wi g tb) (forS it tgt bd) :=
  ⟨ps_for hp hc hi.pi hg.pg hb.ps hs, ex_for hi.ev hg.ev n hb.ev⟩
end

/-! ### list comprehensions -/
def noEr {α : Type} : R α → R α
  | .er _ => .un
  | r => r
def compF (tgt : D → Env → R Env) (c : Env → R Bool) (el : Env → R D) (vs : List Nat) (ρ : Env) : List D → R (List D)
  | [] => .ok []
  | x :: xs => (tgt x (wipeE ρ vs)).bind fun ρ1 => (noEr (c ρ1)).bind fun k => if k = true then (noEr (el ρ1)).bind fun y => (compF tgt c el vs ρ xs).bind fun ys => .ok (y :: ys) else compF tgt c el vs ρ xs
def compV (it : Env → R (List D)) (tgt : D → Env → R Env) (c : Env → R Bool) (el : Env → R D) (vs : List Nat) : Env → R D := fun ρ => (it ρ).bind fun xs => (compF tgt c el vs ρ xs).bind fun ys => .ok (.lst ys)
def yesT : Env → R Bool := fun _ => .ok true
structure DTs [Glo] (X : Cx) (K : PySem.W.Frag) (E : XK) (es : List Expr) (t : TT) (φ : Env → R Bool) : Prop where
  pt : PTs X es t
  ev : EvT K E t φ
section
variable {X : Cx} {E : XK} {K : PySem.W.Frag}
theorem ts_nil [Glo] : DTs X K E [] tYes yesT := ⟨pts_nil, fun F0 B F σ H ρ Q ok w => W.ok (P := PB Q) ok.fh w⟩
theorem ts_one [Glo] {c : Expr} {t : TT} {φ : Env → R Bool} (h : DT X K E c t φ) : DTs X K E [c] t φ := ⟨pts_one h.pt, h.ev⟩
theorem compF_len {tgt : D → Env → R Env} {c : Env → R Bool} {el : Env → R D} {vs : List Nat} {ρ : Env} : ∀ {xs : List D} {ys : List D}, compF tgt c el vs ρ xs = .ok ys → ys.length ≤ xs.length
  | [], ys, e => by cases e; exact Nat.le_refl _
  | x :: xs, ys, e => by
    unfold compF at e
    cases h1 : tgt x (wipeE ρ vs) with
    | un => rw [h1] at e; cases e
    | er _ => rw [h1] at e; cases e
    | ok ρ1 =>
      rw [h1] at e
      have e : ((noEr (c ρ1)).bind fun k => if k = true then (noEr (el ρ1)).bind fun y => (compF tgt c el vs ρ xs).bind fun ys => .ok (y :: ys) else compF tgt c el vs ρ xs) = .ok ys := e
      cases h2 : noEr (c ρ1) with
      | un => rw [h2] at e; cases e
      | er _ => rw [h2] at e; cases e
      | ok k =>
        rw [h2] at e
        have e : (if k = true then (noEr (el ρ1)).bind fun y => (compF tgt c el vs ρ xs).bind fun ys => .ok (y :: ys) else compF tgt c el vs ρ xs) = .ok ys := e
        cases k with
        | false => exact Nat.le_succ_of_le (compF_len (show compF tgt c el vs ρ xs = .ok ys from e))
        | true =>
          rw [if_pos rfl] at e
          cases h3 : noEr (el ρ1) with
          | un => rw [h3] at e; cases e
          | er _ => rw [h3] at e; cases e
          | ok y =>
            rw [h3] at e
            have e : ((compF tgt c el vs ρ xs).bind fun ys => .ok (y :: ys)) = .ok ys := e
            cases h4 : compF tgt c el vs ρ xs with
            | un => rw [h4] at e; cases e
            | er _ => rw [h4] at e; cases e
            | ok zs =>
              rw [h4] at e
              cases e
              exact Nat.succ_le_succ (compF_len h4)
/-- a way that gives a value -/
theorem noEr_ok {α : Type} {m : R α} {a : α} (h : noEr m = .ok a) : m = .ok a := by
  cases m with
  | un => cases h
  | er _ => cases h
  | ok b => exact h
theorem W.of_ok [Glo] {α : Type} {F H : Hp} {P : α → Hp → Hp → Prop} {m : R α} {a : α} {E : XK} (e : m = .ok a) (h : ∀ F' H', Gr F H F' H' → P a F' H') : W F H P m E := by
  rw [e]
  exact h
theorem compF_cons {tgt : D → Env → R Env} {c : Env → R Bool} {el : Env → R D} {vs : List Nat} {ρ : Env} {x : D} {xs ys : List D} (e : compF tgt c el vs ρ (x :: xs) = .ok ys) :
    ∃ ρ1 k, tgt x (wipeE ρ vs) = .ok ρ1 ∧ c ρ1 = .ok k ∧ ((k = true ∧ ∃ y zs, el ρ1 = .ok y ∧ compF tgt c el vs ρ xs = .ok zs ∧ ys = y :: zs) ∨ (k = false ∧ compF tgt c el vs ρ xs = .ok ys)) := by
  unfold compF at e
  cases h1 : tgt x (wipeE ρ vs) with
  | un => rw [h1] at e; cases e
  | er _ => rw [h1] at e; cases e
  | ok ρ1 =>
    rw [h1] at e
    have e : ((noEr (c ρ1)).bind fun k => if k = true then (noEr (el ρ1)).bind fun y => (compF tgt c el vs ρ xs).bind fun ys => .ok (y :: ys) else compF tgt c el vs ρ xs) = .ok ys := e
    cases h2 : noEr (c ρ1) with
    | un => rw [h2] at e; cases e
    | er _ => rw [h2] at e; cases e
    | ok k =>
      rw [h2] at e
      have e : (if k = true then (noEr (el ρ1)).bind fun y => (compF tgt c el vs ρ xs).bind fun ys => .ok (y :: ys) else compF tgt c el vs ρ xs) = .ok ys := e
      refine ⟨ρ1, k, rfl, noEr_ok h2, ?_⟩
      cases k with
      | false => exact .inr ⟨rfl, e⟩
      | true =>
        rw [if_pos rfl] at e
        cases h3 : noEr (el ρ1) with
        | un => rw [h3] at e; cases e
        | er _ => rw [h3] at e; cases e
        | ok y =>
          rw [h3] at e
          have e : ((compF tgt c el vs ρ xs).bind fun ys => .ok (y :: ys)) = .ok ys := e
          cases h4 : compF tgt c el vs ρ xs with
          | un => rw [h4] at e; cases e
          | er _ => rw [h4] at e; cases e
          | ok zs =>
            rw [h4] at e
            cases e
            exact .inl ⟨rfl, y, zs, noEr_ok h3, rfl, rfl⟩
theorem compF_noEr {tgt : D → Env → R Env} (n : NoErG tgt) {c : Env → R Bool} {el : Env → R D} {vs : List Nat} {ρ : Env} : ∀ (xs : List D) (z : Addr), compF tgt c el vs ρ xs ≠ .er z
  | [], _ => fun e => nomatch e
  | x :: xs, z => fun e => by
    unfold compF at e
    cases h1 : tgt x (wipeE ρ vs) with
    | un => rw [h1] at e; cases e
    | er w => exact n _ _ _ h1
    | ok ρ1 =>
      rw [h1] at e
      have e : ((noEr (c ρ1)).bind fun k => if k = true then (noEr (el ρ1)).bind fun y => (compF tgt c el vs ρ xs).bind fun ys => .ok (y :: ys) else compF tgt c el vs ρ xs) = .er z := e
      cases h2 : c ρ1 with
      | un => rw [h2] at e; cases e
      | er _ => rw [h2] at e; cases e
      | ok k =>
        rw [h2] at e
        have e : (if k = true then (noEr (el ρ1)).bind fun y => (compF tgt c el vs ρ xs).bind fun ys => .ok (y :: ys) else compF tgt c el vs ρ xs) = .er z := e
        cases k with
        | false => exact compF_noEr n xs z e
        | true =>
          rw [if_pos rfl] at e
          cases h3 : el ρ1 with
          | un => rw [h3] at e; cases e
          | er _ => rw [h3] at e; cases e
          | ok y =>
            rw [h3] at e
            have e : ((compF tgt c el vs ρ xs).bind fun ys => .ok (y :: ys)) = .er z := e
            cases h4 : compF tgt c el vs ρ xs with
            | un => rw [h4] at e; cases e
            | er w => exact compF_noEr n xs w h4
            | ok zs => rw [h4] at e; cases e
theorem ev_lc [Glo] {vs : List Nat} {wi : TI} {g : TG} {tt : TT} {te : TE} {it : Env → R (List D)} {tgt : D → Env → R Env} {c : Env → R Bool} {el : Env → R D} (hi : EvI K E wi it) (hg : EvG K vs g tgt) (n : NoErG tgt) (ht : EvT K E0 tt c) (he : EvE K E0 te el) :
    EvE K E (tLc wi g tt te vs) (compV it tgt c el vs) := by
  intro F0 B F σ H ρ Q ok w
  refine hi F0 B F σ H ρ _ ok (W.imp (W.bind w) fun items F1 H1 g1 w1 J hJ => ?_)
  intro A hA
  -- the whole result
  obtain ⟨ys, hys, w2⟩ : ∃ ys, compF tgt c el vs ρ items = .ok ys ∧ W F1 H1 (PV K Q) (.ok (.lst ys)) E := by
    cases h : compF tgt c el vs ρ items with
    | un => rw [h] at w1; exact w1.elim
    | er z => exact absurd h (compF_noEr n items z)
    | ok ys => rw [h] at w1; exact ⟨ys, rfl, w1⟩
  obtain ⟨hsz, hJ⟩ := hJ
  refine ⟨fun i m Hi => m = items.length - i ∧ i ≤ items.length ∧ ∃ Fi acc zs ws, Gr F1 H1 Fi Hi ∧ Fi A = none ∧ Hi A = some (.lst acc) ∧ Reps K Fi zs acc ∧ zs.length ≤ i ∧ compF tgt c el vs ρ (items.drop i) = .ok ws ∧ ys = zs ++ ws,
    ⟨items.length, by simp, Nat.zero_le _, F1, [], [], ys, Gr.of (same_new hA) (Same.refl _) (fun b o e => ?_) (fun _ _ e => .inl e) id, g1.fh.free hA, upd_same, rfl, Nat.zero_le _, hys, rfl⟩, ?_⟩
  · rw [upd_ne (ne_of_none (g1.fh b o e) hA)]
    exact g1.fh b o e
  rintro i m Hi ⟨rfl, hi', Fi, acc, zs, ws, gi, fA, hAi, rz, hzl, hws, rfl⟩
  obtain ⟨hgo, hstop⟩ := hJ Fi Hi gi.ff gi.fh
  by_cases hlt : i < items.length
  · have hd : items[i]? = some items[i] := List.getElem?_eq_getElem hlt
    obtain ⟨go, yl⟩ := hgo i _ hd
    rw [List.drop_eq_getElem_cons hlt] at hws
    obtain ⟨ρ1, k, e1, e2, hk⟩ := compF_cons hws
    refine .inr ⟨go, fun H2 => ∃ Fi acc zs' ws', Gr F1 H1 Fi H2 ∧ Fi A = none ∧ H2 A = some (.lst acc) ∧ Reps K Fi zs' acc ∧ zs'.length ≤ i + 1 ∧ compF tgt c el vs ρ (items.drop (i + 1)) = .ok ws' ∧ zs ++ ws = zs' ++ ws', fun H2 h2 => ⟨items.length - (i + 1), by omega, rfl, hlt, h2⟩, fun x H2 hy => ?_⟩
    obtain ⟨F2, g2, r2⟩ := yl x H2 hy
    have keepA : ∀ {Fa Ha Fb Hb : Hp} {y : List V}, Gr Fa Ha Fb Hb → Fa A = none → Ha A = some (.lst y) → Fb A = none ∧ Hb A = some (.lst y) := fun {Fa Ha Fb Hb y} gg h1 h2 => by
      refine ⟨?_, gg.hh _ _ h2 own_lst.1⟩
      cases e : Fb A with
      | none => rfl
      | some o =>
        rcases gg.nw A o e with z | z
        · rw [h1] at z; cases z
        · obtain ⟨ps, q⟩ := z _ h2
          cases q
    obtain ⟨fA2, hA2⟩ := keepA g2 fA hAi
    have ok2 : Ok K F0 B F2 σ H2 ρ := by
      have a1 := (ok.grow g1).grow gi
      exact a1.grow g2
    refine hg F0 B F2 (wipe σ vs) H2 (wipeE ρ vs) items[i] x _ (ok2.wipe vs) r2 ρ1 e1 fun σ3 ok3 ew => ?_
    refine ⟨ew.trans ?_, ?_⟩
    · apply List.ext_getElem?
      intro j
      by_cases hj : j ∈ vs
      · by_cases hl : j < σ.length
        · rw [wipe_in hj hl, wipe_in hj (by rw [L2.wipe_length]; exact hl)]
        · rw [List.getElem?_eq_none (by rw [L2.wipe_length, L2.wipe_length]; omega), List.getElem?_eq_none (by rw [L2.wipe_length]; omega)]
      · rw [wipe_get hj]
    refine ht F0 B F2 σ3 H2 ρ1 _ ok3 (W.of_ok e2 fun F3 H3 g3 => ?_)
    obtain ⟨fA3, hA3⟩ := keepA g3 fA2 hA2
    rcases hk with ⟨rfl, y, zs', e3, e4, rfl⟩ | ⟨rfl, e4⟩
    · show te σ3 H3 _
      refine he F0 B F3 σ3 H3 ρ1 _ (ok3.grow g3) (W.of_ok e3 fun F4 H4 g4 v r4 => ?_)
      obtain ⟨fA4, hA4⟩ := keepA g4 fA3 hA3
      have g14 : Gr F1 H1 F4 H4 := ((gi.trans g2).trans g3).trans g4
      refine ⟨acc, hA4, ?_, F4, acc ++ [v], zs ++ [y], zs', ⟨fun b o e n => ?_, fun t => tabs_upd (g14.tb t) hA4 own_lst, g14.nt, g14.ff, fun b o e => ?_, g14.nw⟩, fA4, upd_same, ?_, ?_, e4, by simp⟩
      · have := Reps.length rz
        omega
      · rw [upd_ne (ne_of_none e hA)]
        exact g14.hh b o e n
      · rw [upd_ne (ne_of_none e fA4)]
        exact g14.fh b o e
      · exact Reps.append (Reps.mono ((g2.ff.trans g3.ff).trans g4.ff) _ _ rz) (Reps.one r4)
      · rw [List.length_append]
        exact Nat.succ_le_succ hzl
    · show (fun H2 => _) H3
      exact ⟨F3, acc, zs, ws, (gi.trans g2).trans g3, fA3, hA3, Reps.mono (g2.ff.trans g3.ff) _ _ rz, Nat.le_succ_of_le hzl, e4, rfl⟩
  · have e : i = items.length := by omega
    subst e
    rw [List.drop_length] at hws
    have e : ws = [] := by cases hws; rfl
    subst e
    rw [List.append_nil] at w2
    refine .inl ⟨hstop, w2 (upd Fi A (.lst acc)) Hi ⟨gi.hh, gi.tb, fun t => (gi.nt t).upd own_lst.1, fun b o e => ?_, fun b o e => ?_, fun b o e => ?_⟩ _ ?_⟩
    · rw [upd_ne (ne_of_none (gi.ff b o e) fA)]
      exact gi.ff b o e
    · by_cases hb : b = A
      · subst hb
        rw [upd_same] at e
        cases e
        exact hAi
      · rw [upd_ne hb] at e
        exact gi.fh b o e
    · by_cases hb : b = A
      · subst hb
        exact .inr (Fre.of hA)
      · rw [upd_ne hb] at e
        exact gi.nw b o e
    · refine rep_lst_new fA rz ?_
      have := Reps.length rz
      omega
theorem d_lc [Glo] {vs : List Nat} {elt tg iter : Expr} {ifs : List Expr} {scope : Scope} {pos : Pos} {wi : TI} {g : TG} {tt : TT} {te : TE} {it : Env → R (List D)} {tgt : D → Env → R Env} {c : Env → R Bool} {el : Env → R D} (own : List (Str × Nat)) (hv : own.map (·.2) = vs) (hc : X.calm = true) (hN : X.N.Nodup)
    (hi : DI X K E tg iter wi it) (ok : BlkOk X.N X.env.scope scope own) (n : NoErG tgt)
    (hg : ∀ (s : Shared) (H : Hp) (C : Addr) (cl : List (Str × Addr)) (fp : List Addr), DG (X.blk s H scope (compEnvC scope cl C X.env) fp) K vs tg g tgt)
    (ht : ∀ (s : Shared) (H : Hp) (C : Addr) (cl : List (Str × Addr)) (fp : List Addr), DTs (X.blk s H scope (compEnvC scope cl C X.env) fp) K E0 ifs tt c)
    (he : ∀ (s : Shared) (H : Hp) (C : Addr) (cl : List (Str × Addr)) (fp : List Addr), DE (X.blk s H scope (compEnvC scope cl C X.env) fp) K E0 elt te el) (hs : ∀ x, foldedSetIterable iter X.env x = pure x := by intro _; rfl) :
    DE X K E (.ListComp elt [⟨tg, iter, ifs, 0⟩] scope pos) (tLc wi g tt te vs) (compV it tgt c el vs) := by
  subst hv
  refine ⟨pe_lc hc hN hi.pi ok (fun s H C cl fp => (hg s H C cl fp).pg) (fun s H C cl fp => (ht s H C cl fp).pt) (fun s H C cl fp => (he s H C cl fp).pe) hs, ?_⟩
  exact ev_lc hi.ev (hg X.s_0 X.H_0 0 [] []).ev n (ht X.s_0 X.H_0 0 [] []).ev (he X.s_0 X.H_0 0 [] []).ev
end
end DD

namespace DD
open PySem PySem.Spec PyProof.Rows L2

/-! ### a def -/
def initE (n : Nat) (ds : List D) : Env := ds.map .d ++ List.replicate (n - ds.length) .no
def finF : Out → R D
  | .rt d => .ok d
  | .nx _ => .ok .non
  | _ => .un
def runF (φ : Env → R Out) (n : Nat) : List D → R D := fun ds => (φ (initE n ds)).bind finF
section
variable {P : Program} {w : World} {K : PySem.W.Frag} {mg : Str → Option Value} {base : Heap}
abbrev bodyX (P : Program) (w : World) (K : PySem.W.Frag) (mg : Str → Option Value) (base : Heap) (N : List Str) (qual : Str) (sc : Scope) (f : Addr) (cdv : Value) (A : Around) (outer : List PySem.Env) (s : Shared) (H : Hp) (E : XK) : Cx := cxOf (L2.CX P w) P w K mg base N qual sc f cdv A outer s H E
theorem px {N : List Str} {qual : Str} {sc : Scope} {f : Addr} {cdv : Value} {A : Around} {outer : List PySem.Env} {s : Shared} {H : Hp} {E : XK} : Passes (L2.CX P w) (bodyX P w K mg base N qual sc f cdv A outer s H E) E :=
  passes_call (takes_of rfl rfl rfl rfl) (fun _ _ _ _ h => h)
theorem po {N : List Str} {qual : Str} {sc : Scope} {f : Addr} {cdv : Value} {A : Around} {outer : List PySem.Env} {s : Shared} {H : Hp} {E : XK} : PassesOwn (model P w) A.in1 (bodyX P w K mg base N qual sc f cdv A outer s H E).env (bodyX P w K mg base N qual sc f cdv A outer s H E).xe → True := fun _ => trivial
theorem start_ok [Glo] {F H : Hp} {N : List Str} {ds : List D} {vs : List V} (tb : LamX.Tabs Glo.T H) (nt : NT F) (s : Same F H) (r : Reps K F ds vs) : Ok K F H F (L2.start N vs) H (initE N.length ds) := by
  have hl := Reps.length r
  refine ⟨Gr.refl s, tb, nt, ?_, fun i sl e => ?_, fun i j s1 s2 a n e1 e2 o1 o2 q1 q2 => ?_⟩
  · unfold L2.start initE
    simp [hl]
  · unfold initE at e
    unfold L2.start
    by_cases hi : i < ds.length
    · rw [List.getElem?_append_left (by simpa using hi), List.getElem?_map, List.getElem?_eq_getElem hi] at e
      cases e
      obtain ⟨v, e1, e2⟩ := Reps.get r (List.getElem?_eq_getElem hi)
      refine ⟨v, ?_, e2⟩
      rw [List.getElem?_append_left (by simpa [← hl] using hi), List.getElem?_map, e1]
      rfl
    · rw [List.getElem?_append_right (by simpa using hi)] at e
      have := List.mem_of_getElem? e
      rw [List.eq_of_mem_replicate this]
      trivial
  · unfold initE at e1
    by_cases hi : i < ds.length
    · rw [List.getElem?_append_left (by simpa using hi), List.getElem?_map, List.getElem?_eq_getElem hi] at e1
      cases e1
      cases o1
    · rw [List.getElem?_append_right (by simpa using hi)] at e1
      have := List.mem_of_getElem? e1
      rw [List.eq_of_mem_replicate this] at o1
      cases o1
theorem fin_ok [Glo] {F H : Hp} {Q : VK} {r : R Out} {E : XK} (h : W F H (PV K Q) (r.bind finF) E) : WS K F H { nx := fun _ H' => Q .non H', rt := Q } r E := by
  cases r with
  | un => exact h
  | er C => exact h
  | ok o =>
    cases o with
    | rt d => exact fun F' H' v g r => h F' H' g v r
    | nx ρ => exact fun F' σ' H' ok => h F' H' ok.gr .non rfl
    | bk _ => exact h.elim
    | ct _ => exact h.elim
theorem fn_mk [Glo] {x qual : Str} {st : Stmt} {f : Addr} {fd : FuncData} {N ps : List Str} {k : Nat} {φ : Env → R Out} (F : Fun K x qual st f fd) (S : FnScope N ps (defScope st)) (hm : mg x = some (.ref f)) (hb : Binds K fd ps [])
    (body : ∀ (cdv : Value) (A : Around) (outer : List PySem.Env) (s : Shared) (H : Hp) (E : XK), Room k (A.deeper (envOfC qual (defScope st) s.heap.objs.size f cdv)) → ∃ t, DSs (bodyX P w K mg base N qual (defScope st) f cdv A outer s H E) K E (defBody st) t φ) :
    Fn P w K mg base x (k + 1) ps.length (runF φ N.length) := by
  refine ⟨f, fd, ps, F.okX S (fun vs H Q E h => ?_) (fun cdv A outer s H vs Q E hr h => ?_), hm, F.kp, hb, rfl⟩
  · obtain ⟨F', ds, h1, _, _, _, h2, _⟩ := h
    rw [← Reps.length h2]
    exact h1
  · obtain ⟨F', ds, h1, h0, hn, h2, h3, h4⟩ := h
    obtain ⟨t, b⟩ := body cdv A outer s H E hr
    exact ⟨t, b.ps, b.ev F' H F' (L2.start N vs) H (initE N.length ds) _ (start_ok h0 hn h2 h3) (fin_ok h4)⟩
end

/-! ### stores of names -/
section
variable {X : Cx} {E : XK} {K : PySem.W.Frag} {x : Str} {e : Expr} {i : Nat} {pos pos' : Pos} {te : TE} {a : Env → R D}
theorem ex_set [Glo] (h : EvE K E te a) : ExS K E (tAsg te (gName i)) (setS i a) := fun F0 B F σ H ρ Dn ok w =>
  h F0 B F σ H ρ _ ok (W.imp (WS.bind ok.gr w) fun d F1 H1 g1 w1 v r1 => w1 F1 _ H1 ((ok.grow g1).set i r1))
theorem s_set [Glo] (hN : X.N.Nodup) (hi : X.N[i]? = some x) (hx : Loc X.env.scope x) (h : DE X K E e te a) (hs : swapsWith e (some (.Name x pos')) pos.line X.env = pure false := by rfl)
    (hf : X.fn x = true ∨ X.env.scope.names.lookup x = some .local := by first | exact .inl rfl | exact .inr rfl | assumption) : DS X K E (.Assign [.Name x pos'] e pos) (tAsg te (gName i)) (setS i a) := ⟨ps_set hN hi hx h.pe hs hf, ex_set h.ev⟩
/-- e1, e2 = .. (a tuple) -/
def unpS (is : List Nat) (a : Env → R D) : Env → R Out := fun ρ => (a ρ).bind fun d => (toN is d ρ).bind fun ρ' => .ok (.nx ρ')
theorem s_asg [Glo] {tg : Expr} {is is' : List Nat} {g : TG} (h : DE X K E e te a) (hg : DG X K is' tg g (toN is)) (hs : swapsWithSole [tg] e pos.line X.env = pure false := by rfl) (hw : swappedStores [tg] e X.env = pure none := by rfl) (h1 : (assignEach [tg] X.env).map (·.2) = [assign tg X.env] := by rfl) :
    DS X K E (.Assign [tg] e pos) (tAsg te g) (unpS is a) := by
  refine ⟨ps_asg h.pe hg.pg hs hw h1, fun F0 B F σ H ρ Dn ok w => ?_⟩
  refine h.ev F0 B F σ H ρ _ ok (W.imp (WS.bind ok.gr w) fun d F1 H1 g1 w1 v r1 => ?_)
  obtain ⟨ρ1, e1, w2⟩ := tgt_ok (noErGN _ _) w1
  exact hg.ev F0 B F1 σ H1 ρ d v _ (ok.grow g1) r1 ρ1 e1 fun σ' ok' _ => w2 F1 σ' H1 ok'
end

/-! ### lists of one's own -/
section
variable {K : PySem.W.Frag} {F0 B F : Hp} {σ : L2.St} {H : Hp} {ρ : Env}
theorem SlotOk.addr {σi : Option (Option V)} {s : Slot} (h : SlotOk K B F H σi s) (o : s.owns = true) : ∃ a, σi = some (some (.ref a)) ∧ Fre B a ∧ F a = none ∧ (∃ y, H a = some y ∧ Own y) := by
  cases s with
  | no => cases o
  | d x => cases o
  | L xs =>
    obtain ⟨a, vs, h1, h2, h3, h4, _⟩ := h
    exact ⟨a, h1, h2, h3, _, h4, own_lst⟩
  | M kvs =>
    obtain ⟨a, vs, h1, h2, h3, h4, _⟩ := h
    exact ⟨a, h1, h2, h3, _, h4, own_dK⟩
  | K kvs => cases o
/-- what an elder slot says stands where another object of one's own changes -/
theorem SlotOk.apart {σi : Option (Option V)} {s : Slot} {p : Addr} {o : HO} (h : SlotOk K B F H σi s) (n : s.owns = true → σi ≠ some (some (.ref p))) : SlotOk K B F (upd H p o) σi s := by
  cases s with
  | no => trivial
  | d x => exact h
  | L xs =>
    obtain ⟨a, vs, h1, h2, h3, h4, h5⟩ := h
    exact ⟨a, vs, h1, h2, h3, by rw [upd_ne (fun z => n rfl (by rw [h1, z]))]; exact h4, h5⟩
  | M kvs =>
    obtain ⟨a, vs, h1, h2, h3, h4, h5⟩ := h
    exact ⟨a, vs, h1, h2, h3, by rw [upd_ne (fun z => n rfl (by rw [h1, z]))]; exact h4, h5⟩
  | K kvs => exact h
theorem Ok.fresh [Glo] (i : Nat) (ok : Ok K F0 B F σ H ρ) {p : Addr} {o : HO} (hp : H p = none) {s : Slot} (hs : SlotOk K B F (upd H p o) (some (some (.ref p))) s) : Ok K F0 B F (σ.set i (some (.ref p))) (upd H p o) (ρ.set i s) := by
  have np : ∀ (j : Nat) (s' : Slot), ρ[j]? = some s' → s'.owns = true → σ[j]? ≠ some (some (.ref p)) := fun j s' e o' z => by
    obtain ⟨a, h1, _, _, y, h4, _⟩ := (ok.sl j s' e).addr o'
    rw [z] at h1
    cases h1
    rw [hp] at h4
    cases h4
  refine ⟨⟨ok.gr.hh.trans (LamX.ExtN.of (same_new hp)), fun t => (ok.gr.tb t).ext (same_new hp), ok.gr.nt, ok.gr.ff, ok.gr.fh.trans (same_new hp), ok.gr.nw⟩, ok.tb, ok.nt, by simp [ok.len], fun j s' e => ?_, fun j k s1 s2 a n e1 e2 o1 o2 q1 q2 => ?_⟩
  · by_cases hj : i = j
    · subst hj
      have hi : i < ρ.length := by
        have := (List.getElem?_eq_some_iff.mp e).1
        simpa using this
      rw [List.getElem?_set_self hi] at e
      cases e
      rw [List.getElem?_set_self (by rw [ok.len]; exact hi)]
      exact hs
    · rw [List.getElem?_set_ne hj] at e ⊢
      exact (ok.sl j s' e).apart (np j s' e)
  · by_cases hj : i = j
    · subst hj
      have nk : i ≠ k := n
      have hi : i < σ.length := by
        have := (List.getElem?_eq_some_iff.mp q1).1
        simpa using this
      rw [List.getElem?_set_self hi] at q1
      cases q1
      rw [List.getElem?_set_ne nk] at e2 q2
      exact np k s2 e2 o2 q2
    · rw [List.getElem?_set_ne hj] at e1 q1
      by_cases hk : i = k
      · subst hk
        have hi : i < σ.length := by
          have := (List.getElem?_eq_some_iff.mp q2).1
          simpa using this
        rw [List.getElem?_set_self hi] at q2
        cases q2
        exact np j s1 e1 o1 q1
      · rw [List.getElem?_set_ne hk] at e2 q2
        exact ok.dj j k s1 s2 a n e1 e2 o1 o2 q1 q2
theorem Ok.write [Glo] {i : Nat} (ok : Ok K F0 B F σ H ρ) {s0 : Slot} (hi : ρ[i]? = some s0) (ho : s0.owns = true) {a : Addr} {o : HO} (ha : σ[i]? = some (some (.ref a))) {s : Slot} (hs : SlotOk K B F (upd H a o) (some (some (.ref a))) s) : Ok K F0 B F σ (upd H a o) (ρ.set i s) := by
  obtain ⟨a', h1, hB, hF, y, hy, hO⟩ := (ok.sl i s0 hi).addr ho
  rw [ha] at h1
  cases h1
  have hil : i < ρ.length := (List.getElem?_eq_some_iff.mp hi).1
  have np : ∀ (j : Nat) (s' : Slot), i ≠ j → ρ[j]? = some s' → s'.owns = true → σ[j]? ≠ some (some (.ref a)) := fun j s' n e o' z => ok.dj i j s0 s' a n hi e ho o' ha z
  have sB : ∀ {G : Hp}, G a = none → Same G H → Same G (upd H a o) := fun {G} g s b x e => by
    rw [upd_ne (ne_of_none e g)]
    exact s b x e
  have sE : LamX.ExtN B (upd H a o) := fun b x e n => by
    rw [upd_ne (fun z => by rw [z] at e; obtain ⟨ps, q⟩ := hB x e; exact n ps q)]
    exact ok.gr.hh b x e n
  refine ⟨⟨sE, fun t => tabs_upd (ok.gr.tb t) hy hO, ok.gr.nt, ok.gr.ff, sB hF ok.gr.fh, ok.gr.nw⟩, ok.tb, ok.nt, by simp [ok.len], fun j s' e => ?_, fun j k s1 s2 b n e1 e2 o1 o2 q1 q2 => ?_⟩
  · by_cases hj : i = j
    · subst hj
      rw [List.getElem?_set_self hil] at e
      cases e
      rw [ha]
      exact hs
    · rw [List.getElem?_set_ne hj] at e
      exact (ok.sl j s' e).apart (np j s' hj e)
  · by_cases hj : i = j
    · subst hj
      rw [ha] at q1
      cases q1
      rw [List.getElem?_set_ne n] at e2
      exact np k s2 n e2 o2 q2
    · rw [List.getElem?_set_ne hj] at e1
      by_cases hk : i = k
      · subst hk
        rw [ha] at q2
        cases q2
        exact np j s1 hj e1 o1 q1
      · rw [List.getElem?_set_ne hk] at e2
        exact ok.dj j k s1 s2 b n e1 e2 o1 o2 q1 q2
/-- a slot's own thing becomes data -/
def frzE (i : Nat) (ρ : Env) : Env := match ρ[i]? with
  | some (.L xs) => ρ.set i (.d (.lst xs))
  | some (.M kvs) => ρ.set i (.d (.dct kvs))
  | _ => ρ
theorem Ok.frz_at [Glo] {i : Nat} (ok : Ok K F0 B F σ H ρ) {s0 : Slot} (hi : ρ[i]? = some s0) (ho : s0.owns = true) {a : Addr} {o : HO} (ha : σ[i]? = some (some (.ref a))) (hH : H a = some o) {x : D} (hx : Rep K (upd F a o) x (.ref a)) : Ok K F0 B (upd F a o) σ H (ρ.set i (.d x)) := by
  obtain ⟨a', h1, hB, hF, y, hy, hO⟩ := (ok.sl i s0 hi).addr ho
  rw [ha] at h1
  cases h1
  have hil : i < ρ.length := (List.getElem?_eq_some_iff.mp hi).1
  have ff : Same F (upd F a o) := same_new hF
  refine ⟨⟨ok.gr.hh, ok.gr.tb, fun t => (ok.gr.nt t).upd (by rw [hy] at hH; cases hH; exact hO.1), ok.gr.ff.trans ff, fun b z e => ?_, fun b z e => ?_⟩, ok.tb, ok.nt, by simp [ok.len], fun j s' e => ?_, fun j k s1 s2 b n e1 e2 o1 o2 q1 q2 => ?_⟩
  · by_cases hb : b = a
    · subst hb
      rw [upd_same] at e
      cases e
      exact hH
    · rw [upd_ne hb] at e
      exact ok.gr.fh b z e
  · by_cases hb : b = a
    · subst hb
      exact .inr hB
    · rw [upd_ne hb] at e
      exact ok.gr.nw b z e
  · by_cases hj : i = j
    · subst hj
      rw [List.getElem?_set_self hil] at e
      cases e
      exact ⟨_, ha, hx⟩
    · rw [List.getElem?_set_ne hj] at e
      have h := ok.sl j s' e
      have nn : ∀ c, s'.owns = true → σ[j]? = some (some (.ref c)) → c ≠ a := fun c o' e' z => by
        subst z
        exact ok.dj i j s0 s' c hj hi e ho o' ha e'
      cases s' with
      | no => trivial
      | d x =>
        obtain ⟨v, h1, h2⟩ := h
        exact ⟨v, h1, Rep.mono ff _ _ h2⟩
      | L xs =>
        obtain ⟨c, vs, h1, h2, h3, h4, h5, h6⟩ := h
        exact ⟨c, vs, h1, h2, by rw [upd_ne (nn c rfl h1)]; exact h3, h4, h5, Reps.mono ff _ _ h6⟩
      | M kvs =>
        obtain ⟨c, vs, h1, h2, h3, h4, h5, h6⟩ := h
        exact ⟨c, vs, h1, h2, by rw [upd_ne (nn c rfl h1)]; exact h3, h4, h5, RepKs.mono ff _ _ h6⟩
      | K kvs =>
        obtain ⟨c, vs, h1, ⟨od, h4⟩, h5, h6⟩ := h
        exact ⟨c, vs, h1, ⟨od, ff _ _ h4⟩, h5, RepKs.mono ff _ _ h6⟩
  · have nj : i ≠ j := fun z => by
      subst z
      rw [List.getElem?_set_self hil] at e1
      cases e1
      cases o1
    have nk : i ≠ k := fun z => by
      subst z
      rw [List.getElem?_set_self hil] at e2
      cases e2
      cases o2
    rw [List.getElem?_set_ne nj] at e1
    rw [List.getElem?_set_ne nk] at e2
    exact ok.dj j k s1 s2 b n e1 e2 o1 o2 q1 q2
theorem Ok.freeze [Glo] (i : Nat) (ok : Ok K F0 B F σ H ρ) : ∃ F', Same F F' ∧ Ok K F0 B F' σ H (frzE i ρ) := by
  unfold frzE
  split
  · rename_i xs e
    obtain ⟨a, vs, h1, h2, h3, h4, h5, h6⟩ := ok.sl i _ e
    exact ⟨_, same_new h3, ok.frz_at e rfl h1 h4 ⟨a, vs, rfl, upd_same, h5, Reps.mono (same_new h3) _ _ h6⟩⟩
  · rename_i kvs e
    obtain ⟨a, vs, h1, h2, h3, h4, h5, h6⟩ := ok.sl i _ e
    exact ⟨_, same_new h3, ok.frz_at e rfl h1 h4 ⟨a, vs, rfl, upd_same, h5, RepKs.mono (same_new h3) _ _ h6⟩⟩
  · exact ⟨F, Same.refl F, ok⟩
end
section
variable {X : Cx} {E : XK} {K : PySem.W.Frag} {x : Str} {e : Expr} {i : Nat} {pos pos' : Pos} {te : TE} {a : Env → R D}
/-- from here on the slot's thing is data -/
def frzS (i : Nat) (b : Env → R Out) : Env → R Out := fun ρ => b (frzE i ρ)
theorem s_frz [Glo] {st : Stmt} {t : TS} {b : Env → R Out} (i : Nat) (h : DS X K E st t b) : DS X K E st t (frzS i b) := ⟨h.ps, fun F0 B F σ H ρ Dn ok w => by
  obtain ⟨F', sF, ok'⟩ := ok.freeze i
  exact h.ev F0 B F' σ H _ Dn ok' w⟩
/-- within a test alone -/
def tmpT (i : Nat) (c : Env → R Bool) : Env → R Bool := fun ρ => noEr (c (frzE i ρ))
theorem t_tmp [Glo] {t : TT} {c : Env → R Bool} (i : Nat) (h : DT X K E e t c) : DT X K E e t (tmpT i c) := ⟨h.pt, fun F0 B F σ H ρ Q ok w => by
  obtain ⟨F', sF, ok'⟩ := ok.freeze i
  unfold tmpT at w
  cases hc : c (frzE i ρ) with
  | un => rw [hc] at w; exact w.elim
  | er _ => rw [hc] at w; exact w.elim
  | ok k =>
    rw [hc] at w
    refine h.ev F0 B F' σ H _ Q ok' (W.of_ok hc fun F2 H2 g2 => ?_)
    exact w F H2 ⟨g2.hh, g2.tb, id, Same.refl F, (sF.trans g2.ff).trans g2.fh, fun _ _ e => .inl e⟩⟩
def D.flat : D → Bool
  | .non => true
  | .bl _ => true
  | .int _ => true
  | .str _ => true
  | _ => false
theorem D.flat_rep {F F' : Hp} : ∀ {d : D} {v : V}, d.flat = true → Rep K F d v → Rep K F' d v
  | .non, _, _, h => h
  | .bl _, _, _, h => h
  | .int _, _, _, h => h
  | .str _, _, _, h => h
  | .tup _, _, f, _ => by cases f
  | .lst _, _, f, _ => by cases f
  | .dct _, _, f, _ => by cases f
  | .scr _, _, f, _ => by cases f
def flatR : R D → R D
  | .ok d => if d.flat = true then .ok d else .un
  | _ => .un
def tmpV (i : Nat) (c : Env → R D) : Env → R D := fun ρ => flatR (c (frzE i ρ))
theorem d_tmp [Glo] (i : Nat) (h : DE X K E e te a) : DE X K E e te (tmpV i a) := ⟨h.pe, fun F0 B F σ H ρ Q ok w => by
  obtain ⟨F', sF, ok'⟩ := ok.freeze i
  unfold tmpV at w
  cases hc : a (frzE i ρ) with
  | un => rw [hc] at w; exact w.elim
  | er _ => rw [hc] at w; exact w.elim
  | ok k =>
    rw [hc] at w
    have w : W F H (PV K Q) (if k.flat = true then .ok k else .un) E := w
    by_cases hf : k.flat = true
    · rw [if_pos hf] at w
      refine h.ev F0 B F' σ H _ Q ok' (W.of_ok hc fun F2 H2 g2 v r => ?_)
      exact w F H2 ⟨g2.hh, g2.tb, id, Same.refl F, (sF.trans g2.ff).trans g2.fh, fun _ _ e => .inl e⟩ v (D.flat_rep hf r)
    · rw [if_neg hf] at w
      exact w.elim⟩
/-- x = [..], a list that is changed later -/
def newLS (i : Nat) (a : Env → R (List D)) : Env → R Out := fun ρ => (a ρ).bind fun ds => if ds.length ≤ line then .ok (.nx (ρ.set i (.L ds))) else .un
theorem s_newL [Glo] {es : List Expr} {p : Pos} {t : TA} {a : Env → R (List D)} (hN : X.N.Nodup) (hi : X.N[i]? = some x) (hx : Loc X.env.scope x) (h : DA X K E es t a) (hs : swapsWith (.List es p) (some (.Name x pos')) pos.line X.env = pure false := by rfl)
    (hf : X.fn x = true ∨ X.env.scope.names.lookup x = some .local := by first | exact .inl rfl | exact .inr rfl | assumption) : DS X K E (.Assign [.Name x pos'] (.List es p) pos) (tAsg (tLst t) (gName i)) (newLS i a) := by
  refine ⟨ps_set hN hi hx (pe_lst h.pa) hs hf, fun F0 B F σ H ρ Dn ok w => ?_⟩
  refine h.ev F0 B F σ H ρ _ ok (W.imp (WS.bind ok.gr w) fun ds F1 H1 g1 w1 vs r1 => ?_)
  have w1 : WS K F0 B Dn (if ds.length ≤ line then .ok (.nx (ρ.set i (.L ds))) else .un) E := w1
  by_cases hl : ds.length ≤ line
  · rw [if_pos hl] at w1
    have hl' : vs.length ≤ sizeLine := by rw [← line_eq, ← Reps.length r1]; exact hl
    refine ⟨hl', fun p hp => ?_⟩
    have ok1 := ok.grow g1
    exact w1 F1 _ _ (ok1.fresh i hp ⟨p, vs, rfl, (Fre.of hp).back ok1.gr.hh, ok1.fh.free hp, upd_same, hl', r1⟩)
  · rw [if_neg hl] at w1
    exact w1.elim
/-- x.append(e) -/
def appS (i : Nat) (a : Env → R D) : Env → R Out := fun ρ => match ρ[i]? with
  | some (.L xs) => (a ρ).bind fun d => if xs.length < line then .ok (.nx (ρ.set i (.L (xs ++ [d])))) else .un
  | _ => .un
theorem ex_app [Glo] (h : EvE K E te a) : ExS K E (tDrop (tBM K "list" rAppend (tVar i) (tCons te tNil))) (appS i a) := by
  intro F0 B F σ H ρ Dn ok w
  unfold appS at w
  split at w
  · rename_i xs e
    obtain ⟨p, vs, h1, h2, h3, h4, h5, h6⟩ := ok.sl i _ e
    refine ⟨_, h1, .inl ⟨rfl, vs, SqL.of h4⟩, ?_⟩
    refine h F0 B F σ H ρ _ ok (W.imp (WS.bind ok.gr w) fun d F1 H1 g1 w1 v r1 => ?_)
    have w1 : WS K F0 B Dn (if xs.length < line then .ok (.nx (ρ.set i (.L (xs ++ [d])))) else .un) E := w1
    by_cases hl : xs.length < line
    · rw [if_pos hl] at w1
      have hl' : vs.length < sizeLine := by rw [← line_eq, ← Reps.length h6]; exact hl
      refine ⟨p, vs, v, rfl, rfl, g1.hh _ _ h4 own_lst.1, hl', ?_⟩
      have ok1 := ok.grow g1
      obtain ⟨p', _, h1', h2', h3', _⟩ := ok1.sl i _ e
      rw [h1] at h1'
      cases h1'
      exact w1 F1 _ _ (ok1.write e rfl h1 ⟨p, vs ++ [v], rfl, h2', h3', upd_same, by rw [List.length_append]; exact hl', Reps.append (Reps.mono g1.ff _ _ h6) (Reps.one r1)⟩)
    · rw [if_neg hl] at w1
      exact w1.elim
  · exact w.elim
end
end DD

namespace DD
open PySem PySem.Spec PyProof.Rows L2

/-! ### operators over data -/
section
variable {K : PySem.W.Frag}
theorem str_len (s : List Nat) : (⟨s.toArray⟩ : Str).length = s.length := by simp [Str.length]
theorem str_app (a b : List Nat) : (⟨a.toArray⟩ : Str) ++ ⟨b.toArray⟩ = ⟨(a ++ b).toArray⟩ := by
  show (⟨a.toArray ++ b.toArray⟩ : Str) = _
  simp
theorem strOk_app {a b : List Nat} (ha : PyData.strOk ⟨a.toArray⟩ = true) (hb : PyData.strOk ⟨b.toArray⟩ = true) : PyData.strOk ⟨(a ++ b).toArray⟩ = true := by
  unfold PyData.strOk at *
  simp at *
  exact ⟨ha, hb⟩
theorem strOk_sub {a b : List Nat} (ha : PyData.strOk ⟨a.toArray⟩ = true) (h : ∀ c ∈ b, c ∈ a) : PyData.strOk ⟨b.toArray⟩ = true := by
  unfold PyData.strOk at *
  simp at *
  exact fun x hx => ha x (h x hx)
theorem rep_str {F : Hp} {s : List Nat} (h : s.length ≤ sizeLine) (h2 : PyData.strOk ⟨s.toArray⟩ = true) : Rep K F (.str s) (.str ⟨s.toArray⟩) := ⟨rfl, h, h2⟩
theorem rep_flat {F F' : Hp} {d : D} {v : V} (f : d.flat = true) (r : Rep K F d v) : Rep K F' d v := D.flat_rep f r

def dAdd : D → D → R D
  | .int i, .int j => .ok (.int (i + j))
  | .str a, .str b => if a.length + b.length ≤ line then .ok (.str (a ++ b)) else .un
  | .tup a, .tup b => if a.length + b.length ≤ line then .ok (.tup (a ++ b)) else .un
  | .lst a, .lst b => if a.length + b.length ≤ line then .ok (.lst (a ++ b)) else .un
  | _, _ => .un
def dSub : D → D → R D
  | .int i, .int j => .ok (.int (i - j))
  | _, _ => .un
def dMul : D → D → R D
  | .int i, .int j => if i.natAbs < 2 ^ 64 ∨ j.natAbs < 2 ^ 64 then .ok (.int (i * j)) else .un
  | _, _ => .un
def dMod : D → D → R D
  | .int i, .int j => if 0 < j then .ok (.int (i % j)) else .un
  | _, _ => .un
def dDiv : D → D → R D
  | .int i, .int j => if 0 < j ∧ j < 1073741824 then .ok (.int (i / j)) else .un
  | _, _ => .un
theorem ne_add : NoEr dAdd := by
  intro x y c
  unfold dAdd
  split <;> (try split) <;> simp
theorem ne_sub : NoEr dSub := by
  intro x y c
  unfold dSub
  split <;> simp
theorem ne_mul : NoEr dMul := by
  intro x y c
  unfold dMul
  split <;> (try split) <;> simp
theorem ne_mod : NoEr dMod := by
  intro x y c
  unfold dMod
  split <;> (try split) <;> simp
theorem ne_div : NoEr dDiv := by
  intro x y c
  unfold dDiv
  split <;> (try split) <;> simp
variable {X : Cx}
abbrev rAddA (K : PySem.W.Frag) : R2 := fun x y H Q => (rI0 fun i j => .int (i + j)) x y H Q ∨ (fun x y H Q => (∃ i j, x = .str i ∧ y = .str j ∧ i.length + j.length ≤ sizeLine ∧ Q (.str (i ++ j)) H) ∨ (fun x y H Q => rCatA K x y H Q ∨ rCat x y H Q) x y H Q) x y H Q
theorem or_add : OpR X (binaryOp .Add) (rAddA X.K) := op_add.or (op_add_str.or (op_catA.or op_cat))
theorem of_ite [Glo] {α : Type} {F H : Hp} {P : α → Hp → Hp → Prop} {c : Prop} [Decidable c] {m : R α} {E : XK} (w : W F H P (if c then m else .un) E) : c ∧ W F H P m E := by
  by_cases h : c
  · rw [if_pos h] at w
    exact ⟨h, w⟩
  · rw [if_neg h] at w
    exact w.elim
theorem od_add [Glo] : OpD K (rAddA K) dAdd := by
  intro F H x y v u Q s rx ry E _ w
  unfold dAdd at w
  split at w
  · cases rx; cases ry
    exact .inl ⟨_, _, rfl, rfl, W.ok s w _ rfl⟩
  · obtain ⟨rfl, l1, o1⟩ := rx
    obtain ⟨rfl, l2, o2⟩ := ry
    obtain ⟨hl, w⟩ := of_ite w
    rw [line_eq] at hl
    refine .inr (.inl ⟨_, _, rfl, rfl, by rw [str_len, str_len]; exact hl, ?_⟩)
    rw [str_app]
    exact W.ok s w _ (rep_str (by rw [List.length_append]; exact hl) (strOk_app o1 o2))
  · rename_i a b _
    obtain ⟨p, vs, rfl, h1, h2, h3⟩ := rx
    obtain ⟨q, us, rfl, g1, g2, g3⟩ := ry
    obtain ⟨hl, w⟩ := of_ite w
    have hl' : vs.length + us.length ≤ sizeLine := by rw [← Reps.length h3, ← Reps.length g3, ← line_eq]; exact hl
    refine .inr (.inr (.inl ⟨p, q, vs, us, rfl, rfl, Same.sqT s h1, Same.sqT s g1, hl', fun e => ?_, fun _ e => ?_, fun _ _ a ha => ?_⟩))
    · subst e
      have e : a = [] := List.length_eq_zero_iff.mp (Reps.length h3)
      subst e
      exact W.ok s w _ ⟨q, us, rfl, g1, g2, g3⟩
    · subst e
      have e : b = [] := List.length_eq_zero_iff.mp (Reps.length g3)
      subst e
      rw [List.append_nil] at w
      exact W.ok s w _ ⟨p, vs, rfl, h1, h2, h3⟩
    · exact w _ _ (Gr.new s ha) _ (rep_tup_new (s.free ha) (Reps.append h3 g3) (by rw [List.length_append]; exact hl'))
  · rename_i a b _
    obtain ⟨p, vs, rfl, h1, h2, h3⟩ := rx
    obtain ⟨q, us, rfl, g1, g2, g3⟩ := ry
    obtain ⟨hl, w⟩ := of_ite w
    have hl' : vs.length + us.length ≤ sizeLine := by rw [← Reps.length h3, ← Reps.length g3, ← line_eq]; exact hl
    refine .inr (.inr (.inr ⟨p, q, vs, us, rfl, rfl, s _ _ h1, s _ _ g1, hl', fun a ha => ?_⟩))
    exact w _ _ (Gr.new s ha) _ (rep_lst_new (s.free ha) (Reps.append h3 g3) (by rw [List.length_append]; exact hl'))
  · exact w.elim
theorem od_sub [Glo] : OpD K (rI0 fun i j => .int (i - j)) dSub := by
  intro F H x y v u Q s rx ry E _ w
  unfold dSub at w
  split at w
  · cases rx; cases ry
    exact ⟨_, _, rfl, rfl, W.ok s w _ rfl⟩
  · exact w.elim
theorem od_mul [Glo] : OpD K (rI CMul fun i j => .int (i * j)) dMul := by
  intro F H x y v u Q s rx ry E _ w
  unfold dMul at w
  split at w
  · cases rx; cases ry
    obtain ⟨hc, w⟩ := of_ite w
    refine ⟨_, _, rfl, rfl, ?_, W.ok s w _ rfl⟩
    unfold CMul
    rcases hc with h | h
    · exact .inl (by omega)
    · exact .inr (by omega)
  · exact w.elim
theorem od_mod [Glo] : OpD K (rI (fun _ j => 0 < j) fun i j => .int (i % j)) dMod := by
  intro F H x y v u Q s rx ry E _ w
  unfold dMod at w
  split at w
  · cases rx; cases ry
    obtain ⟨hc, w⟩ := of_ite w
    exact ⟨_, _, rfl, rfl, hc, W.ok s w _ rfl⟩
  · exact w.elim
theorem od_div [Glo] : OpD K (rI CDiv fun i j => .int (i / j)) dDiv := by
  intro F H x y v u Q s rx ry E _ w
  unfold dDiv at w
  split at w
  · cases rx; cases ry
    obtain ⟨hc, w⟩ := of_ite w
    exact ⟨_, _, rfl, rfl, hc, W.ok s w _ rfl⟩
  · exact w.elim

/-! comparisons of ints and texts -/
def dCmp (p : Int → Int → Bool) (q : List Nat → List Nat → Bool) : D → D → R D
  | .int i, .int j => .ok (.bl (p i j))
  | .str a, .str b => .ok (.bl (q a b))
  | _, _ => .un
abbrev dLt := dCmp (fun i j => decide (i < j)) (fun a b => decide (a < b))
abbrev dLe := dCmp (fun i j => decide (i ≤ j)) (fun a b => !decide (b < a))
abbrev dGt := dCmp (fun i j => decide (j < i)) (fun a b => decide (b < a))
abbrev dGe := dCmp (fun i j => decide (j ≤ i)) (fun a b => !decide (a < b))
theorem ne_cmp {p : Int → Int → Bool} {q : List Nat → List Nat → Bool} : NoEr (dCmp p q) := by
  intro x y c
  unfold dCmp
  split <;> simp
abbrev rCmp (p : Int → Int → Bool) (q : List Nat → List Nat → Bool) : R2 := fun x y H Q => (rI0 fun i j => .bl (p i j)) x y H Q ∨ (fun x y H Q => ∃ i j, x = .str i ∧ y = .str j ∧ Q (.bl (q i.cps.toList j.cps.toList)) H) x y H Q
theorem od_cmp [Glo] {p : Int → Int → Bool} {q : List Nat → List Nat → Bool} : OpD K (rCmp p q) (dCmp p q) := by
  intro F H x y v u Q s rx ry E _ w
  unfold dCmp at w
  split at w
  · cases rx; cases ry
    exact .inl ⟨_, _, rfl, rfl, W.ok s w _ rfl⟩
  · obtain ⟨rfl, _⟩ := rx
    obtain ⟨rfl, _⟩ := ry
    exact .inr ⟨_, _, rfl, rfl, W.ok s w _ rfl⟩
  · exact w.elim
theorem or_lt : OpR X (compareOp .Lt) (rCmp (fun i j => decide (i < j)) (fun a b => decide (a < b))) := op_lt.or op_lt_str
theorem or_le : OpR X (compareOp .LtE) (rCmp (fun i j => decide (i ≤ j)) (fun a b => !decide (b < a))) := op_le.or op_le_str
theorem or_gt : OpR X (compareOp .Gt) (rCmp (fun i j => decide (j < i)) (fun a b => decide (b < a))) := op_gt.or op_gt_str
theorem or_ge : OpR X (compareOp .GtE) (rCmp (fun i j => decide (j ≤ i)) (fun a b => !decide (a < b))) := op_ge.or op_ge_str

/-! == and != of data -/
mutual
def toPy : D → PyData
  | .non => .none
  | .bl b => .bool b
  | .int i => .int i
  | .str s => .str ⟨s.toArray⟩
  | .tup xs => .tuple (toPys xs)
  | .lst xs => .list (toPys xs)
  | .dct _ => .none
  | .scr _ => .none
def toPys : List D → List PyData
  | [] => []
  | x :: xs => toPy x :: toPys xs
end
mutual
/-- plain data, at most n deep -/
def D.plain : D → Nat → Bool
  | .non, _ => true
  | .bl _, _ => true
  | .int _, _ => true
  | .str _, _ => true
  | .tup xs, n + 1 => D.plains xs n
  | .lst xs, n + 1 => D.plains xs n
  | _, _ => false
def D.plains : List D → Nat → Bool
  | [], _ => true
  | x :: xs, n => D.plain x n && D.plains xs n
end
mutual
def D.eqv : D → D → Bool
  | .non, .non => true
  | .bl a, .bl b => a == b
  | .bl a, .int j => (if a then 1 else 0) == j
  | .int i, .bl b => i == (if b then 1 else 0)
  | .int i, .int j => i == j
  | .str x, .str y => x == y
  | .tup xs, .tup ys => D.eqvs xs ys
  | .lst xs, .lst ys => D.eqvs xs ys
  | _, _ => false
def D.eqvs : List D → List D → Bool
  | [], [] => true
  | x :: xs, y :: ys => D.eqv x y && D.eqvs xs ys
  | _, _ => false
end
def dEq (x y : D) : R D := if D.plain x 60 = true ∧ D.plain y 60 = true then .ok (.bl (D.eqv x y)) else .un
def dNe (x y : D) : R D := if D.plain x 60 = true ∧ D.plain y 60 = true then .ok (.bl (!D.eqv x y)) else .un
theorem ne_eq : NoEr dEq := by
  intro x y c
  unfold dEq
  split <;> simp
theorem ne_ne : NoEr dNe := by
  intro x y c
  unfold dNe
  split <;> simp
theorem str_eq (a b : List Nat) : ((⟨a.toArray⟩ : Str) == ⟨b.toArray⟩) = (a == b) := by
  by_cases h : a = b
  · subst h
    simp
  · have : (⟨a.toArray⟩ : Str) ≠ ⟨b.toArray⟩ := fun e => h (by
      have := congrArg (fun s : Str => s.cps.toList) e
      simpa using this)
    rw [beq_eq_false_iff_ne.mpr this, beq_eq_false_iff_ne.mpr h]
mutual
theorem eqv_toPy : ∀ (x y : D) (n m : Nat), D.plain x n = true → D.plain y m = true → PyData.eqv (toPy x) (toPy y) = D.eqv x y
  | .non, y, n, m, hx, hy => by cases y <;> first | rfl | (simp [D.plain] at hy; done) | (simp [toPy, PyData.eqv, D.eqv])
  | .bl a, y, n, m, hx, hy => by cases y <;> first | rfl | (simp [D.plain] at hy; done) | (simp [toPy, PyData.eqv, D.eqv])
  | .int i, y, n, m, hx, hy => by cases y <;> first | rfl | (simp [D.plain] at hy; done) | (simp [toPy, PyData.eqv, D.eqv])
  | .str s, y, n, m, hx, hy => by
    cases y <;> first | (simp [D.plain] at hy; done) | (simp only [toPy, PyData.eqv, D.eqv, str_eq])
  | .tup xs, y, n, m, hx, hy => by
    cases n with
    | zero => simp [D.plain] at hx
    | succ n =>
      cases y with
      | tup ys =>
        cases m with
        | zero => simp [D.plain] at hy
        | succ m =>
          simp only [toPy, PyData.eqv, D.eqv]
          exact eqvs_toPy xs ys n m (by simpa [D.plain] using hx) (by simpa [D.plain] using hy)
      | _ => first | (simp [D.plain] at hy; done) | (simp [toPy, PyData.eqv, D.eqv])
  | .lst xs, y, n, m, hx, hy => by
    cases n with
    | zero => simp [D.plain] at hx
    | succ n =>
      cases y with
      | lst ys =>
        cases m with
        | zero => simp [D.plain] at hy
        | succ m =>
          simp only [toPy, PyData.eqv, D.eqv]
          exact eqvs_toPy xs ys n m (by simpa [D.plain] using hx) (by simpa [D.plain] using hy)
      | _ => first | (simp [D.plain] at hy; done) | (simp [toPy, PyData.eqv, D.eqv])
  | .dct _, y, n, m, hx, hy => by cases n <;> simp [D.plain] at hx
  | .scr _, y, n, m, hx, hy => by cases n <;> simp [D.plain] at hx
theorem eqvs_toPy : ∀ (xs ys : List D) (n m : Nat), D.plains xs n = true → D.plains ys m = true → PyData.eqvAll (toPys xs) (toPys ys) = D.eqvs xs ys
  | [], [], _, _, _, _ => by simp [toPys, PyData.eqvAll, D.eqvs]
  | [], _ :: _, _, _, _, _ => by simp [toPys, PyData.eqvAll, D.eqvs]
  | _ :: _, [], _, _, _, _ => by simp [toPys, PyData.eqvAll, D.eqvs]
  | x :: xs, y :: ys, n, m, hx, hy => by
    have hx : D.plain x n = true ∧ D.plains xs n = true := by simpa [D.plains] using hx
    have hy : D.plain y m = true ∧ D.plains ys m = true := by simpa [D.plains] using hy
    simp only [toPys, PyData.eqvAll, D.eqvs, eqv_toPy x y n m hx.1 hy.1, eqvs_toPy xs ys n m hx.2 hy.2]
end
mutual
theorem rep_dp {F H : Hp} (s : Same F H) : ∀ (x : D) (v : V) (n : Nat), D.plain x n = true → Rep K F x v → Dp K H v (toPy x)
  | .non, v, n, _, r => by cases r; exact .non
  | .bl b, v, n, _, r => by cases r; exact .bl b
  | .int i, v, n, _, r => by cases r; exact .int i
  | .str t, v, n, _, r => by obtain ⟨rfl, _⟩ := r; exact .str _
  | .tup xs, v, n, h, r => by
    obtain ⟨a, vs, rfl, h1, h2, h3⟩ := r
    cases n with
    | zero => simp [D.plain] at h
    | succ n =>
      simp only [toPy]
      exact .tup (Same.sqT s h1) (reps_dp s xs vs n (by simpa [D.plain] using h) h3)
  | .lst xs, v, n, h, r => by
    obtain ⟨a, vs, rfl, h1, h2, h3⟩ := r
    cases n with
    | zero => simp [D.plain] at h
    | succ n =>
      simp only [toPy]
      exact .lst (SqL.of (s _ _ h1)) (reps_dp s xs vs n (by simpa [D.plain] using h) h3)
  | .dct _, v, n, h, r => by cases n <;> simp [D.plain] at h
  | .scr _, v, n, h, r => by cases n <;> simp [D.plain] at h
theorem reps_dp {F H : Hp} (s : Same F H) : ∀ (xs : List D) (vs : List V) (n : Nat), D.plains xs n = true → Reps K F xs vs → DpAll K H vs (toPys xs)
  | [], vs, n, _, r => by
    have r : vs = [] := r
    subst r
    simp only [toPys]
    exact .nil
  | x :: xs, vs, n, h, r => by
    obtain ⟨v, us, rfl, h1, h2⟩ := r
    have h : D.plain x n = true ∧ D.plains xs n = true := by simpa [D.plains] using h
    simp only [toPys]
    exact .cons (rep_dp s x v n h.1 h1) (reps_dp s xs us n h.2 h2)
end
mutual
theorem shaped_py {F : Hp} : ∀ (x : D) (v : V) (n : Nat), D.plain x n = true → Rep K F x v → PyData.canLay0 (toPy x) = true ∧ (toPy x).depth ≤ n + 1
  | .non, v, n, _, r => by simp [toPy, PyData.canLay0, PyData.depth]
  | .bl b, v, n, _, r => by simp [toPy, PyData.canLay0, PyData.depth]
  | .int i, v, n, _, r => by simp [toPy, PyData.canLay0, PyData.depth]
  | .str t, v, n, _, r => by
    obtain ⟨_, _, h⟩ := r
    simp only [toPy, PyData.canLay0, PyData.depth]
    exact ⟨h, by omega⟩
  | .tup xs, v, n, h, r => by
    obtain ⟨a, vs, rfl, h1, h2, h3⟩ := r
    cases n with
    | zero => simp [D.plain] at h
    | succ n =>
      have := shapeds_py xs vs n (by simpa [D.plain] using h) h3
      simp only [toPy, PyData.canLay0, PyData.depth]
      exact ⟨this.1, by omega⟩
  | .lst xs, v, n, h, r => by
    obtain ⟨a, vs, rfl, h1, h2, h3⟩ := r
    cases n with
    | zero => simp [D.plain] at h
    | succ n =>
      have := shapeds_py xs vs n (by simpa [D.plain] using h) h3
      simp only [toPy, PyData.canLay0, PyData.depth]
      exact ⟨this.1, by omega⟩
  | .dct _, v, n, h, r => by cases n <;> simp [D.plain] at h
  | .scr _, v, n, h, r => by cases n <;> simp [D.plain] at h
theorem shapeds_py {F : Hp} : ∀ (xs : List D) (vs : List V) (n : Nat), D.plains xs n = true → Reps K F xs vs → PyData.canLayAll0 (toPys xs) = true ∧ PyData.depthAll (toPys xs) ≤ n + 1
  | [], vs, n, _, r => by simp [toPys, PyData.canLayAll0, PyData.depthAll]
  | x :: xs, vs, n, h, r => by
    obtain ⟨v, us, rfl, h1, h2⟩ := r
    have h : D.plain x n = true ∧ D.plains xs n = true := by simpa [D.plains] using h
    have a := shaped_py x v n h.1 h1
    have b := shapeds_py xs us n h.2 h2
    simp only [toPys, PyData.canLayAll0, PyData.depthAll]
    refine ⟨by simp [a.1, b.1], ?_⟩
    omega
end
theorem shaped_of {F : Hp} {x : D} {v : V} {n : Nat} (hn : n ≤ 63) (h : D.plain x n = true) (r : Rep K F x v) : SeqAt.shaped (toPy x) = true := by
  obtain ⟨a, b⟩ := shaped_py x v n h r
  unfold SeqAt.shaped
  rw [a, decide_eq_true (by omega : (toPy x).depth ≤ 64)]
  rfl
theorem od_eq [Glo] : OpD K (rEqD K) dEq := by
  intro F H x y v u Q s rx ry E _ w
  obtain ⟨⟨h1, h2⟩, w⟩ := of_ite w
  refine ⟨toPy x, toPy y, rep_dp s x v _ h1 rx, rep_dp s y u _ h2 ry, shaped_of (by decide) h1 rx, shaped_of (by decide) h2 ry, ?_⟩
  rw [eqv_toPy x y _ _ h1 h2]
  exact W.ok s w _ rfl
theorem od_ne [Glo] : OpD K (rNeD K) dNe := by
  intro F H x y v u Q s rx ry E _ w
  obtain ⟨⟨h1, h2⟩, w⟩ := of_ite w
  refine ⟨toPy x, toPy y, rep_dp s x v _ h1 rx, rep_dp s y u _ h2 ry, shaped_of (by decide) h1 rx, shaped_of (by decide) h2 ry, ?_⟩
  rw [eqv_toPy x y _ _ h1 h2]
  exact W.ok s w _ rfl

/-! is None -/
def D.isN : D → Bool
  | .non => true
  | _ => false
def dIsN (x y : D) : R D := match y with
  | .non => .ok (.bl x.isN)
  | _ => .un
def dNotN (x y : D) : R D := match y with
  | .non => .ok (.bl (!x.isN))
  | _ => .un
theorem ne_isN : NoEr dIsN := by
  intro x y c
  unfold dIsN
  split <;> simp
theorem ne_notN : NoEr dNotN := by
  intro x y c
  unfold dNotN
  split <;> simp
theorem isN_rep {F : Hp} {x : D} {v : V} (r : Rep K F x v) : decide (v = .non) = x.isN := by
  cases x with
  | non => cases r; rfl
  | bl _ => cases r; rfl
  | int _ => cases r; rfl
  | str _ => obtain ⟨rfl, _⟩ := r; rfl
  | tup _ => obtain ⟨_, _, rfl, _⟩ := r; rfl
  | lst _ => obtain ⟨_, _, rfl, _⟩ := r; rfl
  | dct _ => obtain ⟨_, _, rfl, _⟩ := r; rfl
  | scr _ => obtain ⟨_, rfl, _⟩ := r; rfl
theorem od_isN [Glo] : OpD K (fun x y H Q => y = .non ∧ Q (.bl (decide (x = .non))) H) dIsN := by
  intro F H x y v u Q s rx ry E _ w
  unfold dIsN at w
  split at w
  · refine ⟨ry, ?_⟩
    rw [isN_rep rx]
    exact W.ok s w _ rfl
  · exact w.elim
theorem od_notN [Glo] : OpD K (fun x y H Q => y = .non ∧ Q (.bl (!decide (x = .non))) H) dNotN := by
  intro F H x y v u Q s rx ry E _ w
  unfold dNotN at w
  split at w
  · refine ⟨ry, ?_⟩
    rw [isN_rep rx]
    exact W.ok s w _ rfl
  · exact w.elim
end
end DD

namespace DD
open PySem PySem.Spec PyProof.Rows L2

/-! ### subscripts -/
def optR {α : Type} : Option α → R α
  | some a => .ok a
  | none => .un
def dIx : D → D → R D
  | .tup xs, .int i => optR (atI xs i)
  | .lst xs, .int i => optR (atI xs i)
  | .str s, .int i => (optR (atI s i)).bind fun c => .ok (.str [c])
  | .scr ns, .int i => (optR (atI ns i)).bind fun c => .ok (.int c)
  | _, _ => .un
section
variable {K : PySem.W.Frag} {X : Cx} {E : XK}
theorem ne_ix : NoEr dIx := by
  intro x y c
  unfold dIx
  split
  · cases h : atI _ _ <;> simp [optR]
  · cases h : atI _ _ <;> simp [optR]
  · cases h : atI _ _ <;> simp [optR, R.bind]
  · cases h : atI _ _ <;> simp [optR, R.bind]
  · simp
theorem atI_rep {F : Hp} {xs : List D} {vs : List V} {i : Int} {d : D} (r : Reps K F xs vs) (h : atI xs i = some d) : ∃ v, atI vs i = some v ∧ Rep K F d v := by
  unfold atI at *
  rw [← Reps.length r]
  cases hj : ixN xs.length i with
  | none => rw [hj] at h; cases h
  | some j =>
    rw [hj] at h
    exact Reps.get r h
theorem optR_ok [Glo] {α β : Type} {F H : Hp} {P : β → Hp → Hp → Prop} {o : Option α} {f : α → R β} {E : XK} (w : W F H P ((optR o).bind f) E) : ∃ a, o = some a ∧ W F H P (f a) E := by
  cases o with
  | none => exact w.elim
  | some a => exact ⟨a, rfl, w⟩
theorem optR_ok' [Glo] {β : Type} {F H : Hp} {P : β → Hp → Hp → Prop} {o : Option β} {E : XK} (w : W F H P (optR o) E) : ∃ a, o = some a ∧ W F H P (.ok a) E := by
  cases o with
  | none => exact w.elim
  | some a => exact ⟨a, rfl, w⟩
theorem atI_mem {α : Type} {xs : List α} {i : Int} {d : α} (h : atI xs i = some d) : d ∈ xs := by
  unfold atI at h
  cases hj : ixN xs.length i with
  | none => rw [hj] at h; cases h
  | some j =>
    rw [hj] at h
    exact List.mem_of_getElem? h
theorem atI_map {α β : Type} (f : α → β) (xs : List α) (i : Int) : atI (xs.map f) i = (atI xs i).map f := by
  unfold atI
  rw [List.length_map]
  cases ixN xs.length i with
  | none => rfl
  | some j => simp
theorem od_ix [Glo] : OpD K (rIx K) dIx := by
  intro F H x y v u Q s rx ry E _ w
  unfold dIx at w
  split at w
  · obtain ⟨p, vs, rfl, h1, h2, h3⟩ := rx
    cases ry
    obtain ⟨d, e, w⟩ := optR_ok' w
    obtain ⟨z, e2, r⟩ := atI_rep h3 e
    exact .inr (.inl ⟨p, vs, _, z, rfl, rfl, Same.sqT s h1, e2, W.ok s w z r⟩)
  · obtain ⟨p, vs, rfl, h1, h2, h3⟩ := rx
    cases ry
    obtain ⟨d, e, w⟩ := optR_ok' w
    obtain ⟨z, e2, r⟩ := atI_rep h3 e
    exact .inl ⟨p, vs, _, z, rfl, rfl, SqL.of (s _ _ h1), e2, W.ok s w z r⟩
  · obtain ⟨rfl, h1, h2⟩ := rx
    cases ry
    obtain ⟨d, e, w⟩ := optR_ok w
    refine .inr (.inr ⟨_, _, d, rfl, rfl, by rw [str_len]; exact h1, e, W.ok s w _ (rep_str (s := [d]) (Nat.le_trans (by decide : 1 ≤ 1000) (by decide)) (strOk_sub h2 fun c hc => ?_))⟩)
    have : c = d := by simpa using hc
    subst this
    exact atI_mem e
  · obtain ⟨p, rfl, h1, h2⟩ := rx
    cases ry
    obtain ⟨d, e, w⟩ := optR_ok w
    exact .inl ⟨p, _, _, .int d, rfl, rfl, Same.seq s h1, by rw [atI_map, e]; rfl, W.ok s w _ rfl⟩
  · exact w.elim
theorem d_ix [Glo] {ea eb : Expr} {pos : Pos} {ta tb : TE} {a b : Env → R D} (ha : DE X K E ea ta a) (hb : DE X K E eb tb b) (hs : PlainIx eb := by exact fun _ _ => rfl) (hK : X.K = K := by rfl) : DE X K E (.Subscript ea eb pos) (tOp (rIx K) ta tb) (op2 dIx a b) := by
  subst hK
  exact ⟨pe_ix ix_seq ha.pe hb.pe hs, ev_op od_ix ne_ix ha.ev hb.ev⟩

/-! ### slices -/
def cutL {α : Type} (xs : List α) (lo hi : Option Int) : List α := (xs.drop (HT.sIx xs.length 0 lo)).take (HT.sIx xs.length xs.length hi - HT.sIx xs.length 0 lo)
def dCut (x : D) (lo hi : Option Int) : R D := match x with
  | .tup xs => .ok (.tup (cutL xs lo hi))
  | .lst xs => .ok (.lst (cutL xs lo hi))
  | .str s => .ok (.str (cutL s lo hi))
  | _ => .un
def oNo : Env → R (Option Int) := fun _ => .ok none
def asI : D → R Int
  | .int i => .ok i
  | _ => .un
def oSome (a : Env → R D) : Env → R (Option Int) := fun ρ => (a ρ).bind fun d => (asI d).bind fun i => .ok (some i)
def slcV (a : Env → R D) (lo hi : Env → R (Option Int)) : Env → R D := fun ρ => (a ρ).bind fun x => (lo ρ).bind fun l => (hi ρ).bind fun h => dCut x l h
theorem o_no [Glo] : DO X K E none tNoPart oNo := ⟨po_none, fun F0 B F σ H ρ Q ok w => W.ok (P := fun o _ H' => Q o H') ok.fh w⟩
theorem asI_bind [Glo] {α : Type} {F H : Hp} {P : α → Hp → Hp → Prop} {d : D} {v : V} {f : Int → R α} (r : Rep K F d v) (w : W F H P ((asI d).bind f) E) : ∃ k, v = .int k ∧ W F H P (f k) E := by
  cases d with
  | int b => exact ⟨b, rep_int r, w⟩
  | non => exact w.elim
  | bl _ => exact w.elim
  | str _ => exact w.elim
  | tup _ => exact w.elim
  | lst _ => exact w.elim
  | dct _ => exact w.elim
  | scr _ => exact w.elim
theorem o_some [Glo] {e : Expr} {t : TE} {a : Env → R D} (h : DE X K E e t a) : DO X K E (some e) (tPart t) (oSome a) := by
  refine ⟨po_some h.pe, fun F0 B F σ H ρ Q ok w => ?_⟩
  refine h.ev F0 B F σ H ρ _ ok (W.imp (W.bind w) fun d F1 H1 g1 w1 v r1 => ?_)
  obtain ⟨k, e, w2⟩ := asI_bind r1 w1
  exact ⟨k, e, W.ok (P := fun o _ H' => Q o H') g1.fh w2⟩
theorem cutL_len {α : Type} (xs : List α) (lo hi : Option Int) : (cutL xs lo hi).length ≤ xs.length := by
  unfold cutL
  rw [List.length_take, List.length_drop]
  omega
theorem cutL_mem {α : Type} {xs : List α} {lo hi : Option Int} {c : α} (h : c ∈ cutL xs lo hi) : c ∈ xs := List.mem_of_mem_drop (List.mem_of_mem_take h)
theorem cut_reps {F : Hp} {xs : List D} {vs : List V} (r : Reps K F xs vs) (lo hi : Option Int) : Reps K F (cutL xs lo hi) (cutV vs lo hi) := by
  unfold cutL cutV
  rw [Reps.length r]
  exact Reps.take _ (Reps.drop _ r)
theorem cut_whole {α : Type} {xs : List α} {lo hi : Option Int} (h : HT.sIx xs.length 0 lo = 0 ∧ HT.sIx xs.length xs.length hi = xs.length) : cutL xs lo hi = xs := by
  unfold cutL
  rw [h.1, h.2]
  simp
abbrev rSlAll (K : PySem.W.Frag) : V → Option Int → Option Int → Hp → VK → Prop := fun x lo hi H Q => rSlL K x lo hi H Q ∨ (fun x lo hi H Q => rSlA K x lo hi H Q ∨ rSlS x lo hi H Q) x lo hi H Q
theorem sr_all : SlR X (rSlAll X.K) := sl_list.or (sl_tupA.or sl_str)
theorem sd_all [Glo] {F H : Hp} {x : D} {v : V} {lo hi : Option Int} {Q : VK} (s : Same F H) (rx : Rep K F x v) (w : W F H (PV K Q) (dCut x lo hi) E) : rSlAll K v lo hi H Q := by
  unfold dCut at w
  split at w
  · obtain ⟨p, vs, rfl, h1, h2, h3⟩ := rx
    refine .inr (.inl ⟨p, vs, rfl, Same.sqT s h1, fun hw => ?_, fun _ a ha => ?_⟩)
    · rw [← Reps.length h3] at hw
      rw [cut_whole hw] at w
      exact W.ok s w _ ⟨p, vs, rfl, h1, h2, h3⟩
    · exact w _ _ (Gr.new s ha) _ (rep_tup_new (s.free ha) (cut_reps h3 lo hi) (Nat.le_trans (cutV_length vs lo hi) h2))
  · obtain ⟨p, vs, rfl, h1, h2, h3⟩ := rx
    refine .inl ⟨p, vs, rfl, SqL.of (s _ _ h1), fun a ha => ?_⟩
    exact w _ _ (Gr.new s ha) _ (rep_lst_new (s.free ha) (cut_reps h3 lo hi) (Nat.le_trans (cutV_length vs lo hi) h2))
  · rename_i t
    obtain ⟨rfl, h1, h2⟩ := rx
    refine .inr (.inr ⟨_, rfl, by rw [str_len]; exact h1, ?_⟩)
    have e : cutS ⟨t.toArray⟩ lo hi = ⟨(cutL t lo hi).toArray⟩ := by
      unfold cutS cutL
      rw [str_len]
    rw [e]
    exact W.ok s w _ (rep_str (Nat.le_trans (cutL_len t lo hi) h1) (strOk_sub h2 fun c hc => cutL_mem hc))
  · exact w.elim
theorem d_slc [Glo] {ea : Expr} {lo hi : Option Expr} {pos p2 : Pos} {ta : TE} {tl th : TO} {a : Env → R D} {l h : Env → R (Option Int)} (ha : DE X K E ea ta a) (hl : DO X K E lo tl l) (hh : DO X K E hi th h) (hK : X.K = K := by rfl) :
    DE X K E (.Subscript ea (.Slice lo hi none p2) pos) (tSl (rSlAll K) ta tl th) (slcV a l h) := by
  subst hK
  refine ⟨pe_slice sr_all ha.pe hl.po hh.po, fun F0 B F σ H ρ Q ok w => ?_⟩
  refine ha.ev F0 B F σ H ρ _ ok (W.imp (W.bind w) fun x F1 H1 g1 w1 v r1 => ?_)
  refine hl.ev F0 B F1 σ H1 ρ _ (ok.grow g1) (W.imp (W.bind w1) fun l F2 H2 g2 w2 => ?_)
  refine hh.ev F0 B F2 σ H2 ρ _ ((ok.grow g1).grow g2) (W.imp (W.bind w2) fun h F3 H3 g3 w3 => ?_)
  exact sd_all g3.fh (Rep.mono (g2.ff.trans g3.ff) _ _ r1) w3
end

/-! ### built-ins -/
def dLen : List D → R D
  | [.str s] => .ok (.int s.length)
  | [.tup xs] => .ok (.int xs.length)
  | [.lst xs] => .ok (.int xs.length)
  | [.scr xs] => .ok (.int xs.length)
  | [.dct xs] => .ok (.int xs.length)
  | _ => .un
def dMax2 : List D → R D
  | [.int i, .int j] => .ok (.int (if j > i then j else i))
  | _ => .un
def dMin2 : List D → R D
  | [.int i, .int j] => .ok (.int (if j < i then j else i))
  | _ => .un
def dTuple : List D → R D
  | [.tup xs] => .ok (.tup xs)
  | [.lst xs] => .ok (.tup xs)
  | _ => .un
section
variable {K : PySem.W.Frag} {X : Cx} {E : XK}
theorem reps1 {F : Hp} {d : D} {vs : List V} (r : Reps K F [d] vs) : ∃ v, vs = [v] ∧ Rep K F d v := by
  obtain ⟨v, r', rfl, h, e⟩ := r
  have e : r' = [] := e
  subst e
  exact ⟨v, rfl, h⟩
theorem reps2 {F : Hp} {d e : D} {vs : List V} (r : Reps K F [d, e] vs) : ∃ v u, vs = [v, u] ∧ Rep K F d v ∧ Rep K F e u := by
  obtain ⟨v, r', rfl, h, r2⟩ := r
  obtain ⟨u, rfl, h2⟩ := reps1 r2
  exact ⟨v, u, rfl, h, h2⟩
theorem reps_keys {F : Hp} : ∀ {kvs : List (List Nat × D)} {kv : List (Key × V)}, RepKs K F kvs kv → kvs.length = kv.length
  | [], _, h => by
    have h : _ = [] := h
    rw [h]
    rfl
  | (k, d) :: r, _, h => by
    obtain ⟨v, r', rfl, _, _, h2⟩ := h
    simp [reps_keys h2]
abbrev rLenA (K : PySem.W.Frag) : List V → Hp → VK → Prop := fun xs H Q => (∃ x n, xs = [x] ∧ LenV K x H n ∧ Q (.int n) H) ∨ (∃ a kvs, xs = [V.ref a] ∧ H a = some (.dK kvs) ∧ Q (.int kvs.length) H)
theorem cr_len : CallR X (.builtin "len") (rLenA X.K) := call_len.or call_lenD
theorem cd_len [Glo] : CallD K (rLenA K) dLen := by
  intro F H xs vs Q s r E w
  unfold dLen at w
  split at w
  · obtain ⟨v, rfl, rfl, h1, h2⟩ := reps1 r
    exact .inl ⟨_, _, rfl, ⟨by rw [str_len]; exact h1, (str_len _).symm⟩, W.ok s w _ rfl⟩
  · obtain ⟨v, rfl, p, vs, rfl, h1, h2, h3⟩ := reps1 r
    refine .inl ⟨_, _, rfl, .inr ⟨vs, Same.sqT s h1, (Reps.length h3)⟩, W.ok s w _ rfl⟩
  · obtain ⟨v, rfl, p, vs, rfl, h1, h2, h3⟩ := reps1 r
    refine .inl ⟨_, _, rfl, .inl ⟨vs, SqL.of (s _ _ h1), (Reps.length h3)⟩, W.ok s w _ rfl⟩
  · obtain ⟨v, rfl, p, rfl, h1, h2⟩ := reps1 r
    refine .inl ⟨_, _, rfl, .inl ⟨_, Same.seq s h1, by rw [List.length_map]⟩, W.ok s w _ rfl⟩
  · obtain ⟨v, rfl, p, kv, rfl, h1, h2, h3⟩ := reps1 r
    exact .inr ⟨p, kv, rfl, s _ _ h1, W.ok s w _ (by rw [← reps_keys h3]; rfl)⟩
  · exact w.elim
theorem cd_max2 [Glo] : CallD K (fun xs H Q => ∃ i j, xs = [.int i, .int j] ∧ Q (.int (if j > i then j else i)) H) dMax2 := by
  intro F H xs vs Q s r E w
  unfold dMax2 at w
  split at w
  · obtain ⟨v, u, rfl, rfl, rfl⟩ := reps2 r
    exact ⟨_, _, rfl, W.ok s w _ rfl⟩
  · exact w.elim
theorem cd_min2 [Glo] : CallD K (fun xs H Q => ∃ i j, xs = [.int i, .int j] ∧ Q (.int (if j < i then j else i)) H) dMin2 := by
  intro F H xs vs Q s r E w
  unfold dMin2 at w
  split at w
  · obtain ⟨v, u, rfl, rfl, rfl⟩ := reps2 r
    exact ⟨_, _, rfl, W.ok s w _ rfl⟩
  · exact w.elim
theorem cd_tuple [Glo] : CallD K (fun xs H Q => ∃ p ys, xs = [.ref p] ∧ ((SqL K H p ys ∧ ∀ l, H l = none → Q (.ref l) (upd H l (.tup ys))) ∨ (SqT K H p ys ∧ Q (.ref p) H))) dTuple := by
  intro F H xs vs Q s r E w
  unfold dTuple at w
  split at w
  · obtain ⟨v, rfl, p, vs, rfl, h1, h2, h3⟩ := reps1 r
    exact ⟨p, vs, rfl, .inr ⟨Same.sqT s h1, W.ok s w _ ⟨p, vs, rfl, h1, h2, h3⟩⟩⟩
  · obtain ⟨v, rfl, p, vs, rfl, h1, h2, h3⟩ := reps1 r
    exact ⟨p, vs, rfl, .inl ⟨SqL.of (s _ _ h1), fun l hl => w _ _ (Gr.new s hl) _ (rep_tup_new (s.free hl) h3 h2)⟩⟩
  · exact w.elim

/-! ### methods of texts -/
def isStr : D → Bool
  | .str _ => true
  | _ => false
def methS (f : D → List D → R D) (o : Env → R D) (a : Env → R (List D)) : Env → R D := fun ρ => (o ρ).bind fun x => if isStr x = true then (a ρ).bind fun xs => f x xs else .un
def MtD [Glo] (K : PySem.W.Frag) (r : V → List V → Hp → VK → Prop) (f : D → List D → R D) : Prop :=
  ∀ (F H : Hp) (x : D) (xs : List D) (v : V) (vs : List V) (Q : VK), Same F H → Rep K F x v → Reps K F xs vs → ∀ E : XK, W F H (PV K Q) (f x xs) E → r v vs H Q
theorem d_methS [Glo] {o e : Expr} {es : List Expr} {name : Str} {mid : String} {apos cpos : Pos} {to : TE} {t : TA} {r : V → List V → Hp → VK → Prop} {f : D → List D → R D} {oo : Env → R D} {a : Env → R (List D)} (slot : PySem.Slot "str" name mid) (hty : typeOf (.builtin mid) = pure (.type "method_descriptor")) (hd : MtD K r f) (hm : MtR X mid r)
    (ho : DE X K E o to oo) (ha : DA X K E (e :: es) t a)
    (hbase : attributeBase o name X.env (eval o X.env) = eval o X.env := by rfl)
    (hfew : ((backTo cpos (starEach (e :: es) X.env)).all (fun x => !x.1) && (backToKw cpos (keywordEach [] X.env)).all (fun x => x.1.isSome)
      && decide ((e :: es).length + ([] : List Keyword).length + (if ([] : List Keyword).isEmpty then 0 else 1) < 30)) = true := by rfl)
    (hline : (apos.endLine == cpos.line) = true := by rfl) (hs : starEach (e :: es) X.env = (false, eval e X.env) :: starEach es X.env := by rfl) (hplain : (backTo cpos (starEach es X.env)).any (·.1) = false := by rfl) (hK : X.K = K := by rfl) :
    DE X K E (.Call (.Attribute o name apos) (e :: es) [] cpos) (tBM K "str" r to t) (methS f oo a) := by
  subst hK
  refine ⟨pe_bm PySem.F.plainAttrs_str slot hty hm ho.pe ha.pa hbase hfew hline hs hplain, fun F0 B F σ H ρ Q ok w => ?_⟩
  refine ho.ev F0 B F σ H ρ _ ok (W.imp (W.bind w) fun x F1 H1 g1 w1 v r1 => ?_)
  obtain ⟨hx, w1⟩ := of_ite w1
  cases x with
  | str z =>
    obtain ⟨rfl, q⟩ := id r1
    refine ⟨rfl, ?_⟩
    refine ha.ev F0 B F1 σ H1 ρ _ (ok.grow g1) (W.imp (W.bind w1) fun xs F2 H2 g2 w2 vs r2 => ?_)
    exact hd F2 H2 _ xs _ vs Q g2.fh (Rep.mono g2.ff _ _ r1) r2 E w2
  | non => cases hx
  | bl _ => cases hx
  | int _ => cases hx
  | tup _ => cases hx
  | lst _ => cases hx
  | dct _ => cases hx
  | scr _ => cases hx
def dStarts : D → List D → R D
  | .str a, [.str b] => .ok (.bl (b.isPrefixOf a))
  | _, _ => .un
theorem starts_eq (a b : List Nat) : Txt.startswith ⟨a.toArray⟩ ⟨b.toArray⟩ = b.isPrefixOf a := by
  unfold Txt.startswith Builtin.Str.subAt
  simp only [str_len, Nat.zero_add]
  by_cases h : b.isPrefixOf a = true
  · rw [h]
    obtain ⟨t, rfl⟩ := List.isPrefixOf_iff_prefix.mp h
    simp
  · rw [Bool.not_eq_true] at h
    rw [h]
    by_cases hl : b.length ≤ a.length
    · simp [hl]
      intro e
      have : b <+: a := by
        rw [← e]
        exact List.take_prefix _ _
      rw [List.isPrefixOf_iff_prefix.mpr this] at h
      cases h
    · simp [hl]
theorem md_starts [Glo] : MtD K (fun x xs H Q => ∃ a b, x = .str a ∧ xs = [.str b] ∧ Q (.bl (Txt.startswith a b)) H) dStarts := by
  intro F H x xs v vs Q s rx rs E w
  unfold dStarts at w
  split at w
  · obtain ⟨rfl, _⟩ := rx
    obtain ⟨v, rfl, rfl, _⟩ := reps1 rs
    refine ⟨_, _, rfl, rfl, ?_⟩
    rw [starts_eq]
    exact W.ok s w _ rfl
  · exact w.elim

/-! ### what is walked -/
theorem PI_or {tg e : Expr} {w1 w2 : TI} (h1 : PI X tg e w1) (h2 : PI X tg e w2) : PI X tg e (fun σ H R => w1 σ H R ∨ w2 σ H R) := ⟨fun pins s σ H R I h => by
  rcases h with h | h
  · exact h1.run pins s σ H R I h
  · exact h2.run pins s σ H R I h⟩
def items : D → R (List D)
  | .tup xs => .ok xs
  | .lst xs => .ok xs
  | .str s => .ok (s.map fun c => .str [c])
  | .scr ns => .ok (ns.map .int)
  | _ => .un
def itV (a : Env → R D) : Env → R (List D) := fun ρ => (a ρ).bind items
theorem itOk_list [Glo] {F : Hp} {a : Addr} {vs : List V} {xs : List D} (h : SqL K F a vs) (hl : vs.length ≤ sizeLine) (r : Reps K F xs vs) : ItOk K (Itl K a) F xs := by
  refine ⟨by rw [Reps.length r]; exact hl, fun F1 H s1 s2 => ⟨fun i d e => ?_, ?_⟩⟩
  · obtain ⟨v, e1, r1⟩ := Reps.get r e
    have hq : SqL K H a vs := Same.seq (s1.trans s2) h
    refine ⟨⟨vs, v, hq, e1⟩, fun x H' hy => ?_⟩
    obtain ⟨rfl, hy⟩ := hy
    have := hy vs hq
    rw [e1] at this
    cases this
    exact ⟨F1, Gr.refl s2, Rep.mono s1 _ _ r1⟩
  · exact ⟨vs, Same.seq (s1.trans s2) h, by rw [Reps.length r]; exact Nat.le_refl _⟩
theorem itOk_tup [Glo] {F : Hp} {a : Addr} {vs : List V} {xs : List D} (h : SqT K F a vs) (hl : vs.length ≤ sizeLine) (r : Reps K F xs vs) : ItOk K (Itt K a) F xs := by
  refine ⟨by rw [Reps.length r]; exact hl, fun F1 H s1 s2 => ⟨fun i d e => ?_, ?_⟩⟩
  · obtain ⟨v, e1, r1⟩ := Reps.get r e
    have hq : SqT K H a vs := Same.sqT (s1.trans s2) h
    refine ⟨⟨vs, v, hq, e1⟩, fun x H' hy => ?_⟩
    obtain ⟨rfl, hy⟩ := hy
    have := hy vs hq
    rw [e1] at this
    cases this
    exact ⟨F1, Gr.refl s2, Rep.mono s1 _ _ r1⟩
  · exact ⟨vs, Same.sqT (s1.trans s2) h, by rw [Reps.length r]; exact Nat.le_refl _⟩
theorem itOk_str [Glo] {F : Hp} {s : List Nat} (hl : s.length ≤ sizeLine) (ho : PyData.strOk ⟨s.toArray⟩ = true) : ItOk K (Its ⟨s.toArray⟩) F (s.map fun c => .str [c]) := by
  refine ⟨by rw [List.length_map]; exact hl, fun F1 H s1 s2 => ⟨fun i d e => ?_, ?_⟩⟩
  · rw [List.getElem?_map] at e
    cases h : s[i]? with
    | none => rw [h] at e; cases e
    | some c =>
      rw [h] at e
      cases e
      have hi : i < s.length := (List.getElem?_eq_some_iff.mp h).1
      refine ⟨by show i < s.toArray.size; simpa using hi, fun x H' hy => ?_⟩
      obtain ⟨rfl, c', hc, rfl⟩ := hy
      have hc : s[i]? = some c' := by simpa using hc
      rw [h] at hc
      cases hc
      exact ⟨F1, Gr.refl s2, rep_str (s := [c]) (Nat.le_trans (by decide : 1 ≤ 1000) (by decide)) (strOk_sub ho fun z hz => by
        have : z = c := by simpa using hz
        subst this
        exact List.mem_of_getElem? h)⟩
  · show s.toArray.size ≤ _
    simp
theorem reps_ints {F : Hp} : ∀ (ns : List Int), Reps K F (ns.map .int) (ns.map V.int)
  | [] => rfl
  | n :: ns => ⟨.int n, ns.map V.int, rfl, rfl, reps_ints ns⟩
abbrev iAll (K : PySem.W.Frag) (t : TE) : TI := fun σ H Rr => iList K t σ H Rr ∨ (fun σ H Rr => iTup K t σ H Rr ∨ iStr t σ H Rr) σ H Rr
theorem ei_all [Glo] {t : TE} {a : Env → R D} (h : EvE K E t a) (hne : ∀ ρ c, a ρ ≠ .er c) : EvI K E (iAll K t) (itV a) := by
  intro F0 B F σ H ρ Rr ok w
  cases ha : a ρ with
  | un => unfold itV at w; rw [ha] at w; exact w.elim
  | er c => exact absurd ha (hne ρ c)
  | ok d =>
    unfold itV at w
    rw [ha] at w
    have w : W F H (fun items F' H' => ∀ J, ItOk K J F' items → Rr J H') (items d) E := w
    have go : ∀ {Q : VK}, (∀ F' H' v, Gr F H F' H' → Rep K F' d v → Q v H') → t σ H Q := fun {Q} q => h F0 B F σ H ρ Q ok (W.of_ok ha fun F' H' g v r => q F' H' v g r)
    unfold items at w
    split at w
    · refine .inr (.inl (go fun F' H' v g r => ?_))
      obtain ⟨p, vs, rfl, h1, h2, h3⟩ := r
      exact ⟨p, rfl, ⟨vs, Same.sqT g.fh h1⟩, w F' H' g _ (itOk_tup h1 h2 h3)⟩
    · refine .inl (go fun F' H' v g r => ?_)
      obtain ⟨p, vs, rfl, h1, h2, h3⟩ := r
      exact ⟨p, rfl, ⟨vs, SqL.of (g.fh _ _ h1)⟩, w F' H' g _ (itOk_list (SqL.of h1) h2 h3)⟩
    · refine .inr (.inr (go fun F' H' v g r => ?_))
      obtain ⟨rfl, h1, h2⟩ := r
      exact ⟨_, rfl, w F' H' g _ (itOk_str h1 h2)⟩
    · refine .inl (go fun F' H' v g r => ?_)
      obtain ⟨p, rfl, h1, h2⟩ := r
      exact ⟨p, rfl, ⟨_, Same.seq g.fh h1⟩, w F' H' g _ (itOk_list h1 (by rw [List.length_map]; exact h2) (reps_ints _))⟩
    · exact w.elim
/-- a source that raises leaves nothing promised -/
def itVn (a : Env → R D) : Env → R (List D) := fun ρ => (noEr (a ρ)).bind items
theorem ei_alln [Glo] {t : TE} {a : Env → R D} (h : EvE K E t a) : EvI K E (iAll K t) (itVn a) := by
  have h' : EvE K E t (fun ρ => noEr (a ρ)) := fun F0 B F σ H ρ Q ok w => by
    refine h F0 B F σ H ρ Q ok ?_
    have w : W F H (PV K Q) (noEr (a ρ)) E := w
    cases ha : a ρ with
    | un => rw [ha] at w; exact w
    | er _ => rw [ha] at w; exact w.elim
    | ok d => rw [ha] at w; exact w
  refine ei_all h' fun ρ c e => ?_
  cases ha : a ρ with
  | un => rw [ha] at e; cases e
  | er _ => rw [ha] at e; cases e
  | ok d => rw [ha] at e; cases e
theorem i_all [Glo] {tg e : Expr} {t : TE} {a : Env → R D} (h : DE X K E e t a) (hK : X.K = K := by rfl) : DI X K E tg e (iAll K t) (itVn a) := by
  subst hK
  exact ⟨PI_or (pi_list h.pe) (PI_or (pi_tup h.pe) (pi_str h.pe)), ei_alln h.ev⟩

/-! range -/
def rngL (lo : Int) (n : Nat) : List D := (List.range n).map fun i => .int (lo + (i : Nat))
def small62 (i : Int) : Prop := -(2 ^ 62) ≤ i ∧ i < 2 ^ 62
instance (i : Int) : Decidable (small62 i) := by unfold small62; infer_instance
def dRng1 : List D → R (List D)
  | [.int j] => if small62 j ∧ j.toNat ≤ line then .ok (rngL 0 j.toNat) else .un
  | _ => .un
def dRng2 : List D → R (List D)
  | [.int i, .int j] => if small62 i ∧ small62 j ∧ (j - i).toNat ≤ line then .ok (rngL i (j - i).toNat) else .un
  | _ => .un
def itR (f : List D → R (List D)) (a : Env → R (List D)) : Env → R (List D) := fun ρ => (a ρ).bind f
theorem itOk_rng [Glo] {F : Hp} {lo : Int} {n : Nat} (hn : n ≤ line) : ItOk K (Itr lo n) F (rngL lo n) := by
  have hl : (rngL lo n).length = n := by simp [rngL]
  refine ⟨by rw [hl, ← line_eq]; exact hn, fun F1 H s1 s2 => ⟨fun i d e => ?_, ?_⟩⟩
  · have hi : i < n := by
      have := (List.getElem?_eq_some_iff.mp e).1
      rw [hl] at this
      exact this
    refine ⟨hi, fun x H' hy => ?_⟩
    obtain ⟨rfl, rfl⟩ := hy
    refine ⟨F1, Gr.refl s2, ?_⟩
    have : (rngL lo n)[i]? = some (.int (lo + (i : Nat))) := by simp [rngL, hi]
    rw [this] at e
    cases e
    rfl
  · show n ≤ _
    rw [hl]
    exact Nat.le_refl _
theorem i_rng1 [Glo] {tg e : Expr} {p pos : Pos} {ta : TA} {a : Env → R (List D)} (hg : Gl X "range") (hm : X.mg "range" = none) (ha : DA X K E [e] ta a) (hs : starEach [e] X.env = [(false, eval e X.env)] := by rfl) : DI X K E tg (.Call (.Name "range" p) [e] [] pos) (iRng1 ta) (itR dRng1 a) := by
  refine ⟨pi_range1 hg hm ha.pa hs, fun F0 B F σ H ρ Rr ok w => ?_⟩
  refine ha.ev F0 B F σ H ρ _ ok (W.imp (W.bind w) fun xs F1 H1 g1 w1 vs r1 => ?_)
  have w1 : W F1 H1 (fun items F' H' => ∀ J, ItOk K J F' items → Rr J H') (dRng1 xs) E := w1
  unfold dRng1 at w1
  split at w1
  · obtain ⟨v, rfl, rfl⟩ := reps1 r1
    obtain ⟨⟨h1, h2⟩, w2⟩ := of_ite w1
    exact ⟨_, rfl, h1.1, h1.2, W.ok g1.fh w2 _ (itOk_rng h2)⟩
  · exact w1.elim
theorem i_rng2 [Glo] {tg e e2 : Expr} {p pos : Pos} {ta : TA} {a : Env → R (List D)} (hg : Gl X "range") (hm : X.mg "range" = none) (ha : DA X K E [e, e2] ta a) (hs : starEach [e, e2] X.env = [(false, eval e X.env), (false, eval e2 X.env)] := by rfl) (hs2 : starEach [e2] X.env = [(false, eval e2 X.env)] := by rfl) :
    DI X K E tg (.Call (.Name "range" p) [e, e2] [] pos) (iRng2 ta) (itR dRng2 a) := by
  refine ⟨pi_range2 hg hm ha.pa hs hs2, fun F0 B F σ H ρ Rr ok w => ?_⟩
  refine ha.ev F0 B F σ H ρ _ ok (W.imp (W.bind w) fun xs F1 H1 g1 w1 vs r1 => ?_)
  have w1 : W F1 H1 (fun items F' H' => ∀ J, ItOk K J F' items → Rr J H') (dRng2 xs) E := w1
  unfold dRng2 at w1
  split at w1
  · obtain ⟨v, u, rfl, rfl, rfl⟩ := reps2 r1
    obtain ⟨⟨h1, h2, h3⟩, w2⟩ := of_ite w1
    exact ⟨_, _, rfl, ⟨h1.1, h1.2, h2.1, h2.2⟩, W.ok g1.fh w2 _ (itOk_rng h3)⟩
  · exact w1.elim
end
end DD

namespace DD
open PySem PySem.Spec PyProof.Rows L2

/-! ### texts in order -/
section
theorem sle_trans {a b c : List Nat} (h1 : ¬ b < a) (h2 : ¬ c < b) : ¬ c < a := List.not_lt.mpr (List.le_trans (List.not_lt.mp h1) (List.not_lt.mp h2))
theorem sle_antisymm {a b : List Nat} (h1 : ¬ b < a) (h2 : ¬ a < b) : a = b := List.le_antisymm (List.not_lt.mp h1) (List.not_lt.mp h2)
theorem slt_le {a b : List Nat} (h : a < b) : ¬ b < a := fun h2 => List.lt_irrefl _ (List.lt_trans h h2)
def insL (x : List Nat) : List (List Nat) → List (List Nat)
  | [] => [x]
  | y :: ys => if y < x then y :: insL x ys else x :: y :: ys
def sortL : List (List Nat) → List (List Nat)
  | [] => []
  | x :: xs => insL x (sortL xs)
abbrev SLe (l : List (List Nat)) : Prop := l.Pairwise (fun a b => ¬ b < a)
theorem insL_perm (x : List Nat) : ∀ ys, (insL x ys).Perm (x :: ys)
  | [] => List.Perm.refl _
  | y :: ys => by
    unfold insL
    split
    · exact ((insL_perm x ys).cons y).trans (List.Perm.swap x y ys)
    · exact List.Perm.refl _
theorem sortL_perm : ∀ xs, (sortL xs).Perm xs
  | [] => List.Perm.refl _
  | x :: xs => (insL_perm x (sortL xs)).trans ((sortL_perm xs).cons x)
theorem insL_sorted (x : List Nat) : ∀ ys, SLe ys → SLe (insL x ys)
  | [], _ => by simp [insL]
  | y :: ys, h => by
    have h' := List.pairwise_cons.mp h
    unfold insL
    split
    · rename_i hlt
      refine List.pairwise_cons.mpr ⟨fun z hz => ?_, insL_sorted x ys h'.2⟩
      rcases List.mem_cons.mp ((insL_perm x ys).mem_iff.mp hz) with e | e
      · subst e
        exact slt_le hlt
      · exact h'.1 z e
    · rename_i hlt
      refine List.pairwise_cons.mpr ⟨fun z hz => ?_, h⟩
      rcases List.mem_cons.mp hz with e | e
      · subst e
        exact hlt
      · exact sle_trans hlt (h'.1 z e)
theorem sortL_sorted : ∀ xs, SLe (sortL xs)
  | [] => List.Pairwise.nil
  | x :: xs => insL_sorted x _ (sortL_sorted xs)
theorem sorted_unique : ∀ {a b : List (List Nat)}, a.Perm b → SLe a → SLe b → a = b
  | [], b, p, _, _ => (List.Perm.nil_eq p)
  | x :: xs, [], p, _, _ => by cases (List.Perm.eq_nil p)
  | x :: xs, y :: ys, p, ha, hb => by
    have ha' := List.pairwise_cons.mp ha
    have hb' := List.pairwise_cons.mp hb
    have e : x = y := by
      have h1 : x ∈ y :: ys := p.mem_iff.mp List.mem_cons_self
      have h2 : y ∈ x :: xs := p.mem_iff.mpr List.mem_cons_self
      rcases List.mem_cons.mp h1 with e | e
      · exact e
      · rcases List.mem_cons.mp h2 with e2 | e2
        · exact e2.symm
        · exact sle_antisymm (ha'.1 y e2) (hb'.1 x e)
    subst e
    rw [sorted_unique (List.Perm.cons_inv p) ha'.2 hb'.2]
theorem sortL_of {a b : List (List Nat)} (p : a.Perm b) (h : SLe a) : a = sortL b := sorted_unique (p.trans (sortL_perm b).symm) h (sortL_sorted b)
theorem risingS_pw : ∀ (l : List Str) (p : Str), risingS p l = true → (∀ x ∈ l, ¬ x.cps.toList < p.cps.toList) ∧ SLe (l.map fun s => s.cps.toList)
  | [], _, _ => ⟨fun _ h => (nomatch h), List.Pairwise.nil⟩
  | x :: r, p, h => by
    unfold risingS at h
    rw [Bool.and_eq_true, Bool.not_eq_true', ltCps_eq] at h
    obtain ⟨h1, h2⟩ := h
    have h1 : ¬ x.cps.toList < p.cps.toList := of_decide_eq_false h1
    obtain ⟨a, b⟩ := risingS_pw r x h2
    refine ⟨fun y hy => ?_, List.pairwise_cons.mpr ⟨fun y hy => ?_, b⟩⟩
    · rcases List.mem_cons.mp hy with e | e
      · subst e
        exact h1
      · exact sle_trans h1 (a y e)
    · obtain ⟨z, hz, rfl⟩ := List.mem_map.mp hy
      exact a z hz
theorem sortedS_pw : ∀ (l : List Str), sortedS l = true → SLe (l.map fun s => s.cps.toList)
  | [], _ => List.Pairwise.nil
  | x :: r, h => by
    obtain ⟨a, b⟩ := risingS_pw r x h
    refine List.pairwise_cons.mpr ⟨fun y hy => ?_, b⟩
    obtain ⟨z, hz, rfl⟩ := List.mem_map.mp hy
    exact a z hz
def mkS (s : List Nat) : Str := ⟨s.toArray⟩
theorem mkS_tl (x : Str) : mkS x.cps.toList = x := by cases x; simp [mkS]
theorem tl_mkS (s : List Nat) : (mkS s).cps.toList = s := by simp [mkS]
/-- what sorted gives of texts -/
theorem sorted_strs_eq {xs : List (List Nat)} {ys : List Str} (p : ys.Perm (xs.map mkS)) (h : sortedS ys = true) : ys = (sortL xs).map mkS := by
  have p2 : (ys.map fun s => s.cps.toList).Perm xs := by
    have := p.map (fun s : Str => s.cps.toList)
    rw [List.map_map] at this
    have e : xs.map ((fun s : Str => s.cps.toList) ∘ mkS) = xs := by
      conv => rhs; rw [← List.map_id xs]
      exact List.map_congr_left fun s _ => tl_mkS s
    rw [e] at this
    exact this
  have e := sortL_of p2 (sortedS_pw ys h)
  rw [← e, List.map_map]
  conv => lhs; rw [← List.map_id ys]
  exact List.map_congr_left fun s _ => (mkS_tl s).symm
end

/-! ### dicts with text keys -/
def kPut (kvs : List (List Nat × D)) (k : List Nat) (v : D) : List (List Nat × D) :=
  if (kvs.any fun kv => decide (kv.1 = k)) = true then kvs.map (fun kv => if kv.1 = k then (kv.1, v) else kv) else kvs ++ [(k, v)]
def kGet (kvs : List (List Nat × D)) (k : List Nat) : Option D := (kvs.find? fun kv => decide (kv.1 = k)).map (·.2)
def newMS (i : Nat) : Env → R Out := fun ρ => .ok (.nx (ρ.set i (.M [])))
def putS (i : Nat) (k v : Env → R D) : Env → R Out := fun ρ => (v ρ).bind fun d => match ρ[i]? with
  | some (.M kvs) => (k ρ).bind fun kd => match kd with
    | .str key => if kvs.length < line then .ok (.nx (ρ.set i (.M (kPut kvs key d)))) else .un
    | _ => .un
  | _ => .un
def dGet : D → D → R D
  | .dct kvs, .str k => optR (kGet kvs k)
  | _, _ => .un
section
variable {K : PySem.W.Frag} {X : Cx} {E : XK}
theorem key_inj {a b : List Nat} : (Sum.inr ⟨a.toArray⟩ : Key) = Sum.inr ⟨b.toArray⟩ ↔ a = b := by
  constructor
  · intro h
    have h := Sum.inr.inj h
    have := congrArg (fun s : Str => s.cps.toList) h
    simpa using this
  · intro h
    rw [h]
theorem any_key {F : Hp} {k : List Nat} : ∀ {kvs : List (List Nat × D)} {kv : List (Key × V)}, RepKs K F kvs kv → (kv.any fun p => decide (p.1 = (Sum.inr ⟨k.toArray⟩ : Key))) = (kvs.any fun p => decide (p.1 = k))
  | [], _, h => by
    have h : _ = [] := h
    rw [h]
    rfl
  | (q, d) :: r, _, h => by
    obtain ⟨v, r', rfl, _, _, h2⟩ := h
    simp only [List.any_cons, any_key h2, key_inj]
theorem repks_snoc {F : Hp} {k : List Nat} {d : D} {v : V} (hk : k.length ≤ sizeLine ∧ PyData.strOk ⟨k.toArray⟩ = true) (rv : Rep K F d v) : ∀ {kvs : List (List Nat × D)} {kv : List (Key × V)}, RepKs K F kvs kv → RepKs K F (kvs ++ [(k, d)]) (kv ++ [(Sum.inr ⟨k.toArray⟩, v)])
  | [], _, h => by
    have h : _ = [] := h
    rw [h]
    exact ⟨v, [], rfl, hk, rv, rfl⟩
  | (q, e) :: r, _, h => by
    obtain ⟨u, r', rfl, h0, h1, h2⟩ := h
    exact ⟨u, _, rfl, h0, h1, repks_snoc hk rv h2⟩
theorem repks_map {F : Hp} {k : List Nat} {d : D} {v : V} (rv : Rep K F d v) : ∀ {kvs : List (List Nat × D)} {kv : List (Key × V)}, RepKs K F kvs kv →
    RepKs K F (kvs.map (fun p => if p.1 = k then (p.1, d) else p)) (kv.map (fun p => if p.1 = (Sum.inr ⟨k.toArray⟩ : Key) then (p.1, v) else p))
  | [], _, h => by
    have h : _ = [] := h
    rw [h]
    rfl
  | (q, e) :: r, _, h => by
    obtain ⟨u, r', rfl, h0, h1, h2⟩ := h
    simp only [List.map_cons, key_inj]
    by_cases hq : q = k
    · rw [if_pos hq, if_pos hq]
      exact ⟨v, _, rfl, h0, rv, repks_map rv h2⟩
    · rw [if_neg hq, if_neg hq]
      exact ⟨u, _, rfl, h0, h1, repks_map rv h2⟩
theorem repks_put {F : Hp} {k : List Nat} {d : D} {v : V} (hk : k.length ≤ sizeLine ∧ PyData.strOk ⟨k.toArray⟩ = true) (rv : Rep K F d v) {kvs : List (List Nat × D)} {kv : List (Key × V)} (h : RepKs K F kvs kv) : RepKs K F (kPut kvs k d) (putK kv (Sum.inr ⟨k.toArray⟩) v) := by
  unfold kPut putK
  rw [any_key h]
  split
  · exact repks_map rv h
  · exact repks_snoc hk rv h
theorem repks_get {F : Hp} {k : List Nat} {d : D} : ∀ {kvs : List (List Nat × D)} {kv : List (Key × V)}, RepKs K F kvs kv → kGet kvs k = some d → ∃ v, valV kv (Sum.inr ⟨k.toArray⟩) = some v ∧ Rep K F d v
  | [], _, _, e => by simp [kGet] at e
  | (q, x) :: r, _, h, e => by
    obtain ⟨u, r', rfl, h0, h1, h2⟩ := h
    by_cases hq : q = k
    · have : x = d := by simpa [kGet, List.find?_cons, hq] using e
      subst this
      exact ⟨u, valV_pos (key_inj.mpr hq), h1⟩
    · have e2 : kGet r k = some d := by simpa [kGet, List.find?_cons, hq] using e
      obtain ⟨v, e3, r3⟩ := repks_get h2 e2
      exact ⟨v, by rw [valV_neg (fun z => hq (key_inj.mp z))]; exact e3, r3⟩
theorem repks_keys {F : Hp} : ∀ {kvs : List (List Nat × D)} {kv : List (Key × V)}, RepKs K F kvs kv → kv.map (·.1) = ((kvs.map (·.1)).map mkS).map Sum.inr
  | [], _, h => by
    have h : _ = [] := h
    rw [h]
    rfl
  | (q, x) :: r, _, h => by
    obtain ⟨u, r', rfl, h0, h1, h2⟩ := h
    simp only [List.map_cons, repks_keys h2]
    rfl
theorem repks_ok {F : Hp} : ∀ {kvs : List (List Nat × D)} {kv : List (Key × V)}, RepKs K F kvs kv → ∀ k ∈ kvs.map (·.1), k.length ≤ sizeLine ∧ PyData.strOk ⟨k.toArray⟩ = true
  | [], _, _, k, hk => by simp at hk
  | (q, x) :: r, _, h, k, hk => by
    obtain ⟨u, r', rfl, h0, h1, h2⟩ := h
    rcases List.mem_cons.mp hk with e | e
    · rw [e]
      exact h0
    · exact repks_ok h2 k e
variable {x : Str} {i : Nat} {pos pos' : Pos}
theorem s_newM [Glo] {p : Pos} (hN : X.N.Nodup) (hi : X.N[i]? = some x) (hx : Loc X.env.scope x) (hs : swapsWith (.Dict [] [] p) (some (.Name x pos')) pos.line X.env = pure false := by rfl)
    (hf : X.fn x = true ∨ X.env.scope.names.lookup x = some .local := by first | exact .inl rfl | exact .inr rfl | assumption) : DS X K E (.Assign [.Name x pos'] (.Dict [] [] p) pos) (tAsg tDNewK (gName i)) (newMS i) := by
  refine ⟨ps_set hN hi hx pe_dnewK hs hf, fun F0 B F σ H ρ Dn ok w p hp => ?_⟩
  exact w F _ _ (ok.fresh i hp ⟨p, [], rfl, (Fre.of hp).back ok.gr.hh, ok.fh.free hp, upd_same, Nat.zero_le _, rfl⟩)
theorem s_put [Glo] {o k value : Expr} {ty tv : TE} {kk vv : Env → R D} (hu : X.A.units + 1 < cLine) (ho : PE X o (tVar i)) (hk : DE X K E k ty kk) (hv : DE X K E value tv vv) (hs : swapsWith value (some (.Subscript o k pos')) pos.line X.env = pure false := by rfl) :
    DS X K E (.Assign [.Subscript o k pos'] value pos) (sDPut (tVar i) ty tv) (putS i kk vv) := by
  refine ⟨ps_dput hu ho hk.pe hv.pe hs, fun F0 B F σ H ρ Dn ok w => ?_⟩
  refine hv.ev F0 B F σ H ρ _ ok (W.imp (WS.bind ok.gr w) fun d F1 H1 g1 w1 v r1 => ?_)
  have ok1 := ok.grow g1
  cases hs : ρ[i]? with
  | none => rw [hs] at w1; exact w1.elim
  | some sl =>
    rw [hs] at w1
    cases sl with
    | no => exact w1.elim
    | d _ => exact w1.elim
    | L _ => exact w1.elim
    | K _ => exact w1.elim
    | M kvs =>
      obtain ⟨a, kv, h1, h2, h3, h4, h5, h6⟩ := ok1.sl i _ hs
      refine ⟨_, h1, ?_⟩
      refine hk.ev F0 B F1 σ H1 ρ _ ok1 (W.imp (WS.bind ok1.gr w1) fun kd F2 H2 g2 w2 kv' r2 => ?_)
      have ok2 := ok1.grow g2
      cases kd with
      | str key =>
        obtain ⟨rfl, k1, k2⟩ := r2
        have w2 : WS K F0 B Dn (if kvs.length < line then .ok (.nx (ρ.set i (.M (kPut kvs key d)))) else .un) E := w2
        by_cases hl : kvs.length < line
        · rw [if_pos hl] at w2
          obtain ⟨a', kv2, q1, q2, q3, q4, q5, q6⟩ := ok2.sl i _ hs
          rw [h1] at q1
          cases q1
          have hl' : kv2.length < sizeLine := by rw [← line_eq, ← reps_keys q6]; exact hl
          refine ⟨a, _, rfl, DPut.k (k := Sum.inr ⟨key.toArray⟩) q4 hl', ?_⟩
          refine w2 F2 _ _ (ok2.write hs rfl h1 ⟨a, _, rfl, q2, q3, upd_same, ?_, repks_put ⟨k1, k2⟩ (Rep.mono g2.ff _ _ r1) q6⟩)
          have := length_putK kv2 (Sum.inr ⟨key.toArray⟩) v
          omega
        · rw [if_neg hl] at w2
          exact w2.elim
      | non => exact w2.elim
      | bl _ => exact w2.elim
      | int _ => exact w2.elim
      | tup _ => exact w2.elim
      | lst _ => exact w2.elim
      | dct _ => exact w2.elim
      | scr _ => exact w2.elim
theorem d_get [Glo] {ea eb : Expr} {ta tb : TE} {a b : Env → R D} (hu : X.A.units + 1 < cLine) (ha : DE X K E ea ta a) (hb : DE X K E eb tb b) (hs : NoSl eb := by exact fun _ _ => rfl) : DE X K E (.Subscript ea eb pos) (tDGet ta tb) (op2 dGet a b) := by
  refine ⟨pe_dget hu ha.pe hb.pe hs, fun F0 B F σ H ρ Q ok w => ?_⟩
  refine ha.ev F0 B F σ H ρ _ ok (W.imp (W.bind w) fun x F1 H1 g1 w1 v r1 => ?_)
  refine hb.ev F0 B F1 σ H1 ρ _ (ok.grow g1) (W.imp (W.bind w1) fun y F2 H2 g2 w2 u r2 => ?_)
  have w2 : W F2 H2 (PV K Q) (dGet x y) E := w2
  unfold dGet at w2
  split at w2
  · obtain ⟨p, kv, rfl, h1, h2, h3⟩ := Rep.mono g2.ff _ _ r1
    obtain ⟨rfl, k1, k2⟩ := r2
    obtain ⟨d, e, w2⟩ := optR_ok' w2
    obtain ⟨z, e2, r3⟩ := repks_get h3 e
    exact ⟨p, z, rfl, by rw [← e2]; exact DGet.k (k := Sum.inr ⟨_⟩) (g2.fh _ _ h1), W.ok g2.fh w2 z r3⟩
  · exact w2.elim
/-- sorted of a dict with text keys -/
def dSortedD : List D → R D
  | [.dct kvs] => if kvs.length < 64 then .ok (.lst ((sortL (kvs.map (·.1))).map .str)) else .un
  | _ => .un
theorem reps_strs {F : Hp} : ∀ {xs : List (List Nat)}, (∀ k ∈ xs, k.length ≤ sizeLine ∧ PyData.strOk ⟨k.toArray⟩ = true) → Reps K F (xs.map .str) ((xs.map mkS).map V.str)
  | [], _ => rfl
  | x :: xs, h => ⟨_, _, rfl, ⟨rfl, h x List.mem_cons_self⟩, reps_strs fun k hk => h k (List.mem_cons_of_mem _ hk)⟩
theorem cd_sortedD [Glo] : CallD K (fun xs H Q => ∃ (a : Addr) (kvs : List (Key × V)) (ks : List Str), xs = [.ref a] ∧ Rd H a (.dK kvs) ∧ kvs.map (·.1) = ks.map Sum.inr ∧ ks.length < 64 ∧
    ∀ ys p, ys.Perm ks → sortedS ys = true → H p = none → Q (.ref p) (upd H p (.lst (ys.map V.str)))) dSortedD := by
  intro F H xs vs Q s r E w
  unfold dSortedD at w
  split at w
  · rename_i kvs
    obtain ⟨v, rfl, p, kv, rfl, h1, h2, h3⟩ := reps1 r
    obtain ⟨hl, w⟩ := of_ite w
    refine ⟨p, kv, (kvs.map (·.1)).map mkS, rfl, .inl (s _ _ h1), repks_keys h3, by simpa using hl, fun ys q hp hs hq => ?_⟩
    have e := sorted_strs_eq hp hs
    subst e
    have hlen : ((sortL (kvs.map (·.1))).map mkS).length ≤ sizeLine := by
      rw [List.length_map, (sortL_perm _).length_eq, List.length_map]
      exact Nat.le_trans (Nat.le_of_lt hl) (by decide)
    exact w _ _ (Gr.new s hq) _ (rep_lst_new (s.free hq) (reps_strs fun k hk => repks_ok h3 k ((sortL_perm _).mem_iff.mp hk)) (by rw [List.length_map]; exact hlen))
  · exact w.elim

/-! ### in, not in: flat things in a list or tuple; a sign in a text -/
def D.flats (xs : List D) : Bool := xs.all D.flat
def dInB (x y : D) : R Bool := match y with
  | .tup xs => if x.flat = true ∧ D.flats xs = true then .ok (xs.any fun z => D.eqv z x) else .un
  | .lst xs => if x.flat = true ∧ D.flats xs = true then .ok (xs.any fun z => D.eqv z x) else .un
  | .str s => match x with
    | .str [c] => .ok (decide (c ∈ s))
    | _ => .un
  | _ => .un
def dIn (x y : D) : R D := (dInB x y).bind fun b => .ok (.bl b)
def dNotIn (x y : D) : R D := (dInB x y).bind fun b => .ok (.bl (!b))
theorem ne_inB (x y : D) (c : Addr) : dInB x y ≠ .er c := by
  unfold dInB
  split
  · split <;> simp
  · split <;> simp
  · split <;> simp
  · simp
theorem ne_in : NoEr dIn := by
  intro x y c e
  unfold dIn at e
  cases h : dInB x y with
  | un => rw [h] at e; cases e
  | er z => exact ne_inB x y z h
  | ok b => rw [h] at e; cases e
theorem ne_notIn : NoEr dNotIn := by
  intro x y c e
  unfold dNotIn at e
  cases h : dInB x y with
  | un => rw [h] at e; cases e
  | er z => exact ne_inB x y z h
  | ok b => rw [h] at e; cases e
theorem flat_V {F : Hp} {d : D} {v : V} (f : d.flat = true) (r : Rep K F d v) : flatV v = true := by
  cases d with
  | non => cases r; rfl
  | bl _ => cases r; rfl
  | int _ => cases r; rfl
  | str _ => obtain ⟨rfl, _⟩ := r; rfl
  | tup _ => cases f
  | lst _ => cases f
  | dct _ => cases f
  | scr _ => cases f
theorem eqV_of {F : Hp} {d e : D} {v u : V} (f : d.flat = true) (g : e.flat = true) (r : Rep K F d v) (q : Rep K F e u) : eqV v u = D.eqv d e := by
  cases d <;> cases e <;> first | (cases f; done) | (cases g; done) | skip
  all_goals (simp only [Rep] at r q)
  all_goals (try obtain ⟨rfl, _⟩ := r)
  all_goals (try obtain ⟨rfl, _⟩ := q)
  all_goals (try subst r)
  all_goals (try subst q)
  all_goals (simp only [eqV, D.eqv])
  all_goals first | rfl | exact str_eq _ _ | skip
theorem flats_V {F : Hp} : ∀ {xs : List D} {vs : List V}, D.flats xs = true → Reps K F xs vs → vs.all flatV = true
  | [], _, _, h => by
    have h : _ = [] := h
    rw [h]
    rfl
  | d :: ds, _, f, h => by
    obtain ⟨v, r, rfl, h1, h2⟩ := h
    have f : d.flat = true ∧ D.flats ds = true := by simpa [D.flats] using f
    rw [List.all_cons, flat_V f.1 h1, flats_V f.2 h2]
    rfl
theorem inV_of {F : Hp} {d : D} {v : V} (f : d.flat = true) (r : Rep K F d v) : ∀ {xs : List D} {vs : List V}, D.flats xs = true → Reps K F xs vs → inV v vs = xs.any fun z => D.eqv z d
  | [], _, _, h => by
    have h : _ = [] := h
    rw [h]
    rfl
  | e :: ds, _, g, h => by
    obtain ⟨u, r', rfl, h1, h2⟩ := h
    have g : e.flat = true ∧ D.flats ds = true := by simpa [D.flats] using g
    have ih := inV_of f r g.2 h2
    unfold inV at *
    rw [List.any_cons, List.any_cons, eqV_of g.1 f h1 r, ih]
abbrev rInA (K : PySem.W.Frag) (neg : Bool) : R2 := fun x y H Q => rIn K neg x y H Q ∨ (fun x y H Q => ∃ (c : Nat) (z : Str), x = .str ⟨#[c]⟩ ∧ y = .str z ∧ Q (.bl (if neg then !decide (c ∈ z.cps.toList) else decide (c ∈ z.cps.toList))) H) x y H Q
theorem or_in : OpR X (compareOp .In) (rInA X.K false) := op_in_seq.or op_in_sign
theorem or_notIn : OpR X (compareOp .NotIn) (rInA X.K true) := op_notIn_seq.or op_notIn_sign
theorem inA_ok {F H : Hp} {x y : D} {v u : V} {Q : VK} {neg : Bool} (s : Same F H) (rx : Rep K F x v) (ry : Rep K F y u) {b : Bool} (e : dInB x y = .ok b) (q : Q (.bl (if neg then !b else b)) H) : rInA K neg v u H Q := by
  unfold dInB at e
  split at e
  · split at e
    · rename_i xs hc
      cases e
      obtain ⟨p, vs, rfl, h1, h2, h3⟩ := ry
      refine .inl ⟨p, vs, rfl, .inr (Same.sqT s h1), flat_V hc.1 rx, flats_V hc.2 h3, ?_⟩
      rw [inV_of hc.1 rx hc.2 h3]
      exact q
    · cases e
  · split at e
    · rename_i xs hc
      cases e
      obtain ⟨p, vs, rfl, h1, h2, h3⟩ := ry
      refine .inl ⟨p, vs, rfl, .inl (SqL.of (s _ _ h1)), flat_V hc.1 rx, flats_V hc.2 h3, ?_⟩
      rw [inV_of hc.1 rx hc.2 h3]
      exact q
    · cases e
  · split at e
    · cases e
      obtain ⟨rfl, _⟩ := rx
      obtain ⟨rfl, _⟩ := ry
      exact .inr ⟨_, _, rfl, rfl, q⟩
    · cases e
  · cases e
theorem od_in [Glo] : OpD K (rInA K false) dIn := by
  intro F H x y v u Q s rx ry E _ w
  unfold dIn at w
  cases h : dInB x y with
  | un => rw [h] at w; exact w.elim
  | er z => exact absurd h (ne_inB x y z)
  | ok b =>
    rw [h] at w
    exact inA_ok s rx ry h (W.ok (P := PV K Q) s w _ rfl)
theorem od_notIn [Glo] : OpD K (rInA K true) dNotIn := by
  intro F H x y v u Q s rx ry E _ w
  unfold dNotIn at w
  cases h : dInB x y with
  | un => rw [h] at w; exact w.elim
  | er z => exact absurd h (ne_inB x y z)
  | ok b =>
    rw [h] at w
    exact inA_ok s rx ry h (W.ok (P := PV K Q) s w _ rfl)

/-! ### x.append(e); y = [.. for ..]; tuple targets -/
theorem s_app [Glo] {o e : Expr} {te : TE} {a : Env → R D} {apos cpos : Pos} (ho : PE X o (tVar i)) (h : DE X K E e te a)
    (hbase : attributeBase o "append" X.env (eval o X.env) = eval o X.env := by rfl)
    (hfew : ((backTo cpos (starEach [e] X.env)).all (fun x => !x.1) && (backToKw cpos (keywordEach [] X.env)).all (fun x => x.1.isSome)
      && decide (([e] : List Expr).length + ([] : List Keyword).length + (if ([] : List Keyword).isEmpty then 0 else 1) < 30)) = true := by rfl)
    (hline : (apos.endLine == cpos.line) = true := by rfl) (hs : starEach [e] X.env = (false, eval e X.env) :: starEach [] X.env := by rfl) (hplain : (backTo cpos (starEach [] X.env)).any (·.1) = false := by rfl)
    (hsw : swapsWith (.Call (.Attribute o "append" apos) [e] [] cpos) none pos.line X.env = pure false := by rfl) (hK : X.K = K := by rfl) :
    DS X K E (.Expr (.Call (.Attribute o "append" apos) [e] [] cpos) pos) (tDrop (tBM K "list" rAppend (tVar i) (tCons te tNil))) (appS i a) := by
  subst hK
  exact ⟨ps_expr (pe_bm PySem.F.plainAttrs_list PySem.F.slot_list_append PySem.F.type_list_append mt_append ho (pa_cons h.pe pa_nil hs) hbase hfew hline hs hplain) hsw, ex_app h.ev⟩
theorem s_setLc [Glo] {vs : List Nat} {y : Str} {py : Pos} {elt tg iter : Expr} {ifs : List Expr} {scope : Scope} {wi : TI} {g : TG} {tt : TT} {te : TE} {it : Env → R (List D)} {tgt : D → Env → R Env} {c : Env → R Bool} {el : Env → R D} {spos : Pos} (own : List (Str × Nat)) (hv : own.map (·.2) = vs) (hc : X.calm = true) (hN : X.N.Nodup)
    (hy : X.N[i]? = some y) (hyl : X.env.scope.names.lookup y = some .local) (hsw : swapsWith (.ListComp elt [⟨tg, iter, ifs, 0⟩] scope pos) (some (.Name y py)) spos.line X.env = pure true)
    (hi : DI X K E tg iter wi it) (ok : BlkOk X.N X.env.scope scope own) (n : NoErG tgt)
    (hg : ∀ (s : Shared) (H : Hp) (C : Addr) (cl : List (Str × Addr)) (fp : List Addr), DG (X.blk s H scope (compEnvC scope cl C X.env) fp) K vs tg g tgt)
    (ht : ∀ (s : Shared) (H : Hp) (C : Addr) (cl : List (Str × Addr)) (fp : List Addr), DTs (X.blk s H scope (compEnvC scope cl C X.env) fp) K E0 ifs tt c)
    (he : ∀ (s : Shared) (H : Hp) (C : Addr) (cl : List (Str × Addr)) (fp : List Addr), DE (X.blk s H scope (compEnvC scope cl C X.env) fp) K E0 elt te el) (hs : ∀ x, foldedSetIterable iter X.env x = pure x := by intro _; rfl) :
    DS X K E (.Assign [.Name y py] (.ListComp elt [⟨tg, iter, ifs, 0⟩] scope pos) spos) (tAsg (tLc wi g tt te vs) (gName i)) (setS i (compV it tgt c el vs)) := by
  subst hv
  refine ⟨ps_setLc hc hN hy hyl hsw hi.pi ok (fun s H C cl fp => (hg s H C cl fp).pg) (fun s H C cl fp => (ht s H C cl fp).pt) (fun s H C cl fp => (he s H C cl fp).pe) hs, ?_⟩
  exact ex_set (ev_lc hi.ev (hg X.s_0 X.H_0 0 [] []).ev n (ht X.s_0 X.H_0 0 [] []).ev (he X.s_0 X.H_0 0 [] []).ev)
/-- the rest of a block, the slot's thing being data from here on -/
theorem ss_frz [Glo] {sts : List Stmt} {t : TS} {b : Env → R Out} (i : Nat) (h : DSs X K E sts t b) : DSs X K E sts t (frzS i b) := ⟨h.ps, fun F0 B F σ H ρ Dn ok w => by
  obtain ⟨F', _, ok'⟩ := ok.freeze i
  exact h.ev F0 B F' σ H _ Dn ok' w⟩
theorem d_call0 [Glo] {k n : Nat} {f : List D → R D} {fx : Str} {e : Expr} {es : List Expr} {p : Pos} {t : TA} {a : Env → R (List D)} (F : Fn X.prog X.w K X.mg X.base fx k n f) (hr : Room k X.A) (hg : Gl X fx) (ha : DA X K E0 (e :: es) t a)
    (hd : (fx == ("__debug__" : Str)) = false := by decide) (hs : starEach (e :: es) X.env = (false, eval e X.env) :: starEach es X.env := by rfl) (hp : (backTo pos (starEach es X.env)).any (·.1) = false := by rfl) (hK : X.K = K := by rfl) :
    DE X K E0 (.Call (.Name fx p) (e :: es) [] pos) (tCall (spD K n f) [] E0 t) (callF n f a) := d_call F hr hg passL ha hd hs hp hK
theorem g_tup [Glo] {es : List Expr} {k : Nat} {t : TGs} (is : List Nat) {is' : List Nat} {pos : Pos} (hN : Names' is t) (h : PGs X es t) (hs : ∀ i ∈ is, i ∈ is' := by decide) (hc : X.calm = true := by rfl)
    (hn : (assignEach es X.env).length = is.length := by rfl) (hst : (assignEach es X.env).findIdx? (·.1) = none := by rfl) (hK : X.K = K := by rfl) : DG X K is' (.Tuple es k pos) (gTup K is.length t) (toN is) := by
  subst hK
  exact ⟨pg_tup hc h hn hst, eg_tup hN rfl hs⟩
/-- a, b = x, y -/
def parS (is : List Nat) (a : Env → R (List D)) : Env → R Out := fun ρ => (a ρ).bind fun ds => (toAll is ds ρ).bind fun ρ' => .ok (.nx ρ')
theorem s_par [Glo] {j : Nat} {x y : Str} {a b : Expr} {ta : TA} {aa : Env → R (List D)} {px py pt : Pos} {kt k2 pt2} (hc : X.calm = true) (hN : X.N.Nodup) (hi : X.N[i]? = some x) (hj : X.N[j]? = some y) (hij : i ≠ j)
    (hx : X.env.scope.names.lookup x = some .local) (hy : X.env.scope.names.lookup y = some .local) (ha : DA X K E [a, b] ta aa)
    (hw : swappedStores [.Tuple [.Name x px, .Name y py] kt pt] (.Tuple [a, b] k2 pt2) X.env = pure (some [x, y]) := by rfl)
    (hs : swapsWithSole [.Tuple [.Name x px, .Name y py] kt pt] (.Tuple [a, b] k2 pt2) pos.line X.env = pure false := by rfl) :
    DS X K E (.Assign [.Tuple [.Name x px, .Name y py] kt pt] (.Tuple [a, b] k2 pt2) pos) (tPar i j ta) (parS [i, j] aa) := by
  refine ⟨ps_par hc hN hi hj hij hx hy ha.pa hw hs, fun F0 B F σ H ρ Dn ok w => ?_⟩
  refine ha.ev F0 B F σ H ρ _ ok (W.imp (WS.bind ok.gr w) fun ds F1 H1 g1 w1 vs rr => ?_)
  obtain ⟨ρ1, e1, w2⟩ := tgt_ok (noErAll _ _ _) w1
  match ds, e1, rr with
  | [d1, d2], e1, rr =>
    obtain ⟨v, u, rfl, rv, ru⟩ := reps2 rr
    cases e1
    exact ⟨v, u, rfl, w2 F1 _ H1 (((ok.grow g1).set i rv).set j ru)⟩
theorem s_par3 [Glo] {j l : Nat} {x y z : Str} {a b c : Expr} {ta : TA} {aa : Env → R (List D)} {px py pz pt : Pos} {kt k2 pt2} (hc : X.calm = true) (hN : X.N.Nodup) (hi : X.N[i]? = some x) (hj : X.N[j]? = some y) (hl : X.N[l]? = some z) (hij : i ≠ j) (hil : i ≠ l) (hjl : j ≠ l)
    (hx : X.env.scope.names.lookup x = some .local) (hy : X.env.scope.names.lookup y = some .local) (hz : X.env.scope.names.lookup z = some .local) (ha : DA X K E [a, b, c] ta aa)
    (hw : swappedStores [.Tuple [.Name x px, .Name y py, .Name z pz] kt pt] (.Tuple [a, b, c] k2 pt2) X.env = pure (some [x, y, z]) := by rfl)
    (hs : swapsWithSole [.Tuple [.Name x px, .Name y py, .Name z pz] kt pt] (.Tuple [a, b, c] k2 pt2) pos.line X.env = pure false := by rfl) :
    DS X K E (.Assign [.Tuple [.Name x px, .Name y py, .Name z pz] kt pt] (.Tuple [a, b, c] k2 pt2) pos) (tPar3 i j l ta) (parS [i, j, l] aa) := by
  refine ⟨ps_par3 hc hN hi hj hl hij hil hjl hx hy hz ha.pa hw hs, fun F0 B F σ H ρ Dn ok w => ?_⟩
  refine ha.ev F0 B F σ H ρ _ ok (W.imp (WS.bind ok.gr w) fun ds F1 H1 g1 w1 vs rr => ?_)
  obtain ⟨ρ1, e1, w2⟩ := tgt_ok (noErAll _ _ _) w1
  match ds, e1, rr with
  | [d1, d2, d3], e1, rr =>
    obtain ⟨v, r', rfl, rv, r2⟩ := rr
    obtain ⟨u, q, rfl, ru, rq⟩ := reps2 r2
    cases e1
    exact ⟨v, u, q, rfl, w2 F1 _ H1 ((((ok.grow g1).set i rv).set j ru).set l rq)⟩
/-! int(b), int(n) -/
def dInt1 : List D → R D
  | [.int i] => .ok (.int i)
  | [.bl b] => .ok (.int (if b then 1 else 0))
  | _ => .un
theorem cd_int1 [Glo] : CallD K (fun xs H Q => (∃ i, xs = [.int i] ∧ Q (.int i) H) ∨ ∃ k, xs = [.bl k] ∧ Q (.int (if k then 1 else 0)) H) dInt1 := by
  intro F H xs vs Q s r E w
  unfold dInt1 at w
  split at w
  · obtain ⟨v, rfl, rfl⟩ := reps1 r
    exact .inl ⟨_, rfl, W.ok s w _ rfl⟩
  · obtain ⟨v, rfl, rfl⟩ := reps1 r
    exact .inr ⟨_, rfl, W.ok s w _ rfl⟩
  · exact w.elim
end
end DD

namespace DD
open PySem PySem.Spec PyProof.Rows L2

/-! ### the end of a law -/
def DefIn (K : PySem.W.Frag) (mg : Str → Option Value) (x : Str) (st : Stmt) (ps : List Str) : Prop := ∃ (f : Addr) (fd : FuncData), Fun K x x st f fd ∧ mg x = some (.ref f) ∧ Binds K fd ps []
section
variable {P : Program} {w : World} {K : PySem.W.Frag} {mg : Str → Option Value} {base h : Heap}
theorem defIn_mk {x : Str} {st : Stmt} {f : Addr} {oc : Value} {od an : Option Addr} {osl : Array (Option Value)} {kV doc pm cdv ct : Value} (X : K.In h) (G : h.Ns mainGlobals mg) (ps : List Str)
    (a : PySem.W.nsIn K mainGlobals x = some (some (.ref f))) (l : K.lookup f = some ⟨oc, od, .func (PySem.W.fnOf x x (defArgs st) (defBody st) (defScope st) .none kV doc pm an cdv ct), osl⟩)
    (c : PySem.W.codeIn K cdv x = true) (k : PySem.W.keepIn K (.ref f) = true)
    (hb : ∀ (kV doc pm : Value) (an : Option Addr) (cdv ct : Value) (us : List Value), us.length = ps.length → bindArgs (PySem.W.fnOf x x (defArgs st) (defBody st) (defScope st) .none kV doc pm an cdv ct) ⟨us, []⟩ = pure (ps.zip us)) : DefIn K mg x st ps :=
  have F := fun_mk (st := st) l c k
  ⟨f, _, F, PySem.W.mg_of X G a, F.binds hb⟩
theorem fnok_mk [Glo] {x qual : Str} {st : Stmt} {f : Addr} {fd : FuncData} {N ps : List Str} {k : Nat} {φ : Env → R Out} (F : Fun K x qual st f fd) (S : FnScope N ps (defScope st))
    (body : ∀ (cdv : Value) (A : Around) (outer : List PySem.Env) (s : Shared) (H : Hp) (E : XK), Room k (A.deeper (envOfC qual (defScope st) s.heap.objs.size f cdv)) → ∃ t, DSs (bodyX P w K mg base N qual (defScope st) f cdv A outer s H E) K E (defBody st) t φ) :
    FnOk P w K mg base (L2.CX P w) (k + 1) f fd ps (spD K ps.length (runF φ N.length)) := by
  refine F.okX S (fun vs H Q E h => ?_) (fun cdv A outer s H vs Q E hr h => ?_)
  · obtain ⟨F', ds, h1, _, _, _, h2, _⟩ := h
    rw [← Reps.length h2]
    exact h1
  · obtain ⟨F', ds, h1, h0, hn, h2, h3, h4⟩ := h
    obtain ⟨t, b⟩ := body cdv A outer s H E hr
    exact ⟨t, b.ps, b.ev F' H F' (L2.start N vs) H (initE N.length ds) _ (start_ok h0 hn h2 h3) (fin_ok h4)⟩
end
def noTab (H : Hp) : Hp := fun b => match H b with
  | some (.tbl _) => none
  | o => o
theorem noTab_of {H : Hp} {b : Addr} {o : HO} (h : noTab H b = some o) : H b = some o := by
  unfold noTab at h
  split at h
  · cases h
  · exact h
theorem noTab_to {H : Hp} {b : Addr} {o : HO} (h : H b = some o) (n : ∀ ps, o ≠ .tbl ps) : noTab H b = some o := by
  unfold noTab
  split
  · rename_i ps e
    rw [h] at e
    cases e
    exact absurd rfl (n ps)
  · exact h
theorem noTab_nt (H : Hp) : NT (noTab H) := fun a ps e => by
  unfold noTab at e
  split at e
  · cases e
  · rename_i z
    exact z ps e
theorem law_end [Glo] {K : PySem.W.Frag} {f : List D → R D} {H : Hp} {a : Addr} {ns : List Int} (hT : LamX.Tabs Glo.T H) (hl : ns.length ≤ 63) (hS : SqL K H a (ns.map V.int)) (law : f [.scr ns] = .ok (.bl true)) : spD K 1 f [.ref a] H (fun v _ => v = .bl true) fun _ _ _ => False := by
  have hS' : SqL K (noTab H) a (ns.map V.int) := by
    rcases hS with (h | ⟨o, h⟩) | h
    · exact .inl (.inl (noTab_to h fun _ z => nomatch z))
    · exact .inl (.inr ⟨o, noTab_to h fun _ z => nomatch z⟩)
    · exact .inr h
  refine ⟨noTab H, [.scr ns], rfl, hT, noTab_nt H, fun b o e => noTab_of e, ⟨.ref a, [], rfl, ⟨a, rfl, hS', Nat.le_trans hl (by decide)⟩, rfl⟩, ?_⟩
  rw [law]
  exact fun F' H' _ v r => r
theorem cx_end {P : Program} {w : World} {H : Hp} {s : Shared} {e : Value} {s' : Shared} (h : L2.CX P w [] H s (fun _ _ _ => False) e s') : False := by
  obtain ⟨_, _, _, _, _, _, _, _, _, _, _, _, z⟩ := h
  exact z
end DD

/-! DD8: the equations by which simp runs what the defs compute -/
namespace DD
open PySem PySem.Spec PyProof.Rows L2
section
variable {α β : Type} {a b c : Env → R D} {k l : Env → R Bool} {s t u : Env → R Out} {as : Env → R (List D)} {ρ : Env} {i n : Nat}
@[simp] theorem bind_ok (x : α) (f : α → R β) : (R.ok x).bind f = f x := id rfl
@[simp] theorem bind_er (x : Addr) (f : α → R β) : (R.er x : R α).bind f = .er x := id rfl
@[simp] theorem bind_un (f : α → R β) : (R.un : R α).bind f = .un := id rfl
@[simp] theorem vI_zero (x : D) (r : Env) : vI 0 (.d x :: r) = .ok x := id rfl
@[simp] theorem vI_succ (s : Slot) (r : Env) : vI (i + 1) (s :: r) = vI i r := id rfl
@[simp] theorem cst_eq (d : D) : cst d ρ = .ok d := id rfl
@[simp] theorem op2_eq (f : D → D → R D) : op2 f a b ρ = (a ρ).bind fun x => (b ρ).bind fun y => f x y := id rfl
@[simp] theorem tst_eq : tst a ρ = (a ρ).bind asB := id rfl
@[simp] theorem asB_bl (x : Bool) : asB (.bl x) = .ok x := id rfl
@[simp] theorem andT_eq : andT k l ρ = (k ρ).bind fun x => if x = true then l ρ else .ok false := id rfl
@[simp] theorem orT_eq : orT k l ρ = (k ρ).bind fun x => if x = true then .ok true else l ρ := id rfl
@[simp] theorem notT_eq : notT k ρ = (k ρ).bind fun x => .ok (!x) := id rfl
@[simp] theorem andV_eq : andV a b ρ = (a ρ).bind fun x => (asB x).bind fun q => if q = true then b ρ else .ok (.bl false) := id rfl
@[simp] theorem orV_eq : orV a b ρ = (a ρ).bind fun x => (asB x).bind fun q => if q = true then .ok (.bl true) else b ρ := id rfl
@[simp] theorem notV_eq : notV a ρ = (a ρ).bind fun x => (asB x).bind fun q => .ok (.bl (!q)) := id rfl
@[simp] theorem ifV_eq : ifV k a b ρ = (k ρ).bind fun q => if q = true then a ρ else b ρ := id rfl
@[simp] theorem chn_eq (f g : D → D → R D) : chn f g a b c ρ = (a ρ).bind fun x => (b ρ).bind fun y => (f x y).bind fun z => (asB z).bind fun q => if q = true then (c ρ).bind fun w => g y w else .ok (.bl false) := id rfl
@[simp] theorem aNil_eq : aNil ρ = .ok [] := id rfl
@[simp] theorem aCons_eq : aCons a as ρ = (a ρ).bind fun x => (as ρ).bind fun xs => .ok (x :: xs) := id rfl
@[simp] theorem tupV_eq : tupV as ρ = (as ρ).bind mkT := id rfl
@[simp] theorem lstV_eq : lstV as ρ = (as ρ).bind mkL := id rfl
@[simp] theorem calls_eq (f : List D → R D) : calls f as ρ = (as ρ).bind f := id rfl
@[simp] theorem callF_eq (f : List D → R D) : callF n f as ρ = (as ρ).bind fun ds => if ds.length = n then f ds else .un := id rfl
@[simp] theorem methS_eq (f : D → List D → R D) : methS f a as ρ = (a ρ).bind fun x => if isStr x = true then (as ρ).bind fun xs => f x xs else .un := id rfl
@[simp] theorem isStr_str (s : List Nat) : isStr (.str s) = true := id rfl
@[simp] theorem oNo_eq : oNo ρ = .ok none := id rfl
@[simp] theorem oSome_eq : oSome a ρ = (a ρ).bind fun d => (asI d).bind fun i => .ok (some i) := id rfl
@[simp] theorem asI_int (x : Int) : asI (.int x) = .ok x := id rfl
@[simp] theorem slcV_eq (lo hi : Env → R (Option Int)) : slcV a lo hi ρ = (a ρ).bind fun x => (lo ρ).bind fun l => (hi ρ).bind fun h => dCut x l h := id rfl
@[simp] theorem skipS_eq : skipS ρ = .ok (.nx ρ) := id rfl
@[simp] theorem brkS_eq : brkS ρ = .ok (.bk ρ) := id rfl
@[simp] theorem cntS_eq : cntS ρ = .ok (.ct ρ) := id rfl
@[simp] theorem dropS_eq : dropS a ρ = (a ρ).bind fun _ => .ok (.nx ρ) := id rfl
@[simp] theorem retS_eq : retS a ρ = (a ρ).bind fun d => .ok (.rt d) := id rfl
@[simp] theorem setS_eq : setS i a ρ = (a ρ).bind fun d => .ok (.nx (ρ.set i (.d d))) := id rfl
def seqO (t : Env → R Out) : Out → R Out
  | .nx ρ' => t ρ'
  | .rt d => .ok (.rt d)
  | .bk ρ' => .ok (.bk ρ')
  | .ct ρ' => .ok (.ct ρ')
@[simp] theorem seqS_eq : seqS s t ρ = (s ρ).bind (seqO t) := id rfl
@[simp] theorem seqO_nx : seqO t (.nx ρ) = t ρ := id rfl
@[simp] theorem seqO_rt (d : D) : seqO t (.rt d) = .ok (.rt d) := id rfl
@[simp] theorem seqO_bk : seqO t (.bk ρ) = .ok (.bk ρ) := id rfl
@[simp] theorem seqO_ct : seqO t (.ct ρ) = .ok (.ct ρ) := id rfl
@[simp] theorem ifS_eq : ifS k s t ρ = (k ρ).bind fun q => if q = true then s ρ else t ρ := id rfl
@[simp] theorem forS_eq (it : Env → R (List D)) (tgt : D → Env → R Env) (bd : Env → R Out) : forS it tgt bd ρ = (it ρ).bind fun xs => forF tgt bd xs ρ := id rfl
@[simp] theorem forF_nil (tgt : D → Env → R Env) (bd : Env → R Out) : forF tgt bd [] ρ = .ok (.nx ρ) := id rfl
def forO (tgt : D → Env → R Env) (bd : Env → R Out) (xs : List D) : Out → R Out
  | .nx ρ2 => forF tgt bd xs ρ2
  | .ct ρ2 => forF tgt bd xs ρ2
  | .bk ρ2 => .ok (.nx ρ2)
  | .rt d => .ok (.rt d)
theorem forF_cons (tgt : D → Env → R Env) (bd : Env → R Out) (x : D) (xs : List D) : forF tgt bd (x :: xs) ρ = (tgt x ρ).bind fun ρ1 => (bd ρ1).bind (forO tgt bd xs) := id rfl
@[simp] theorem forO_nx (tgt : D → Env → R Env) (bd : Env → R Out) (xs : List D) : forO tgt bd xs (.nx ρ) = forF tgt bd xs ρ := id rfl
@[simp] theorem forO_ct (tgt : D → Env → R Env) (bd : Env → R Out) (xs : List D) : forO tgt bd xs (.ct ρ) = forF tgt bd xs ρ := id rfl
@[simp] theorem forO_bk (tgt : D → Env → R Env) (bd : Env → R Out) (xs : List D) : forO tgt bd xs (.bk ρ) = .ok (.nx ρ) := id rfl
@[simp] theorem forO_rt (tgt : D → Env → R Env) (bd : Env → R Out) (xs : List D) (d : D) : forO tgt bd xs (.rt d) = .ok (.rt d) := id rfl
theorem forF_step {tgt : D → Env → R Env} {bd : Env → R Out} {x : D} {xs : List D} {ρ1 ρ2 : Env} (h1 : tgt x ρ = .ok ρ1) (h2 : bd ρ1 = .ok (.nx ρ2) ∨ bd ρ1 = .ok (.ct ρ2)) : forF tgt bd (x :: xs) ρ = forF tgt bd xs ρ2 := by
  rw [forF_cons, h1, bind_ok]
  rcases h2 with h | h
  · rw [h, bind_ok, forO_nx]
  · rw [h, bind_ok, forO_ct]
/-- a loop that only looks -/
theorem forF_inv {tgt : D → Env → R Env} {bd : Env → R Out} (Inv : Env → Prop) : ∀ (xs : List D), (∀ x ∈ xs, ∀ ρ, Inv ρ → ∃ ρ1 ρ2, tgt x ρ = .ok ρ1 ∧ (bd ρ1 = .ok (.nx ρ2) ∨ bd ρ1 = .ok (.ct ρ2)) ∧ Inv ρ2) → ∀ ρ, Inv ρ → ∃ ρ', forF tgt bd xs ρ = .ok (.nx ρ') ∧ Inv ρ'
  | [], _, ρ, i => ⟨ρ, rfl, i⟩
  | x :: xs, h, ρ, i => by
    obtain ⟨ρ1, ρ2, e1, e2, i2⟩ := h x List.mem_cons_self ρ i
    obtain ⟨ρ', e3, i3⟩ := forF_inv Inv xs (fun y hy => h y (List.mem_cons_of_mem _ hy)) ρ2 i2
    exact ⟨ρ', by rw [forF_step e1 e2, e3], i3⟩
@[simp] theorem to1_eq (x : D) : to1 i x ρ = .ok (ρ.set i (.d x)) := id rfl
@[simp] theorem toN_tup (is : List Nat) (xs : List D) : toN is (.tup xs) ρ = toAll is xs ρ := id rfl
@[simp] theorem toAll_nil : toAll [] [] ρ = .ok ρ := id rfl
@[simp] theorem toAll_cons (is : List Nat) (x : D) (xs : List D) : toAll (i :: is) (x :: xs) ρ = toAll is xs (ρ.set i (.d x)) := id rfl
@[simp] theorem finF_rt (d : D) : finF (.rt d) = .ok d := id rfl
@[simp] theorem finF_nx : finF (.nx ρ) = .ok .non := id rfl
@[simp] theorem itVn_eq : itVn a ρ = (noEr (a ρ)).bind items := id rfl
@[simp] theorem noEr_ok' (x : α) : noEr (R.ok x) = .ok x := id rfl
@[simp] theorem noEr_un : noEr (R.un : R α) = .un := id rfl
@[simp] theorem items_tup (xs : List D) : items (.tup xs) = .ok xs := id rfl
@[simp] theorem items_lst (xs : List D) : items (.lst xs) = .ok xs := id rfl
@[simp] theorem items_str (s : List Nat) : items (.str s) = .ok (s.map fun c => .str [c]) := id rfl
@[simp] theorem items_scr (s : List Int) : items (.scr s) = .ok (s.map .int) := id rfl
@[simp] theorem itR_eq (f : List D → R (List D)) : itR f as ρ = (as ρ).bind f := id rfl
@[simp] theorem compV_eq (it : Env → R (List D)) (tgt : D → Env → R Env) (vs : List Nat) : compV it tgt k a vs ρ = (it ρ).bind fun xs => (compF tgt k a vs ρ xs).bind fun ys => .ok (.lst ys) := id rfl
@[simp] theorem yesT_eq : yesT ρ = .ok true := id rfl
@[simp] theorem unpS_eq (is : List Nat) : unpS is a ρ = (a ρ).bind fun d => (toN is d ρ).bind fun ρ' => .ok (.nx ρ') := id rfl
@[simp] theorem parS_eq (is : List Nat) : parS is as ρ = (as ρ).bind fun ds => (toAll is ds ρ).bind fun ρ' => .ok (.nx ρ') := id rfl
@[simp] theorem frzS_eq : frzS i s ρ = s (frzE i ρ) := id rfl
@[simp] theorem tmpT_eq : tmpT i k ρ = noEr (k (frzE i ρ)) := id rfl
@[simp] theorem tmpV_eq : tmpV i a ρ = flatR (a (frzE i ρ)) := id rfl
@[simp] theorem newMS_eq : newMS i ρ = .ok (.nx (ρ.set i (.M []))) := id rfl
@[simp] theorem dAdd_int (x y : Int) : dAdd (.int x) (.int y) = .ok (.int (x + y)) := id rfl
@[simp] theorem dSub_int (x y : Int) : dSub (.int x) (.int y) = .ok (.int (x - y)) := id rfl
@[simp] theorem dCmp_int (p : Int → Int → Bool) (q : List Nat → List Nat → Bool) (x y : Int) : dCmp p q (.int x) (.int y) = .ok (.bl (p x y)) := id rfl
@[simp] theorem dCmp_str (p : Int → Int → Bool) (q : List Nat → List Nat → Bool) (x y : List Nat) : dCmp p q (.str x) (.str y) = .ok (.bl (q x y)) := id rfl
@[simp] theorem dStarts_eq (x y : List Nat) : dStarts (.str x) [.str y] = .ok (.bl (y.isPrefixOf x)) := id rfl
@[simp] theorem dLen_str (s : List Nat) : dLen [.str s] = .ok (.int s.length) := id rfl
@[simp] theorem dLen_tup (s : List D) : dLen [.tup s] = .ok (.int s.length) := id rfl
@[simp] theorem dLen_lst (s : List D) : dLen [.lst s] = .ok (.int s.length) := id rfl
@[simp] theorem dLen_scr (s : List Int) : dLen [.scr s] = .ok (.int s.length) := id rfl
@[simp] theorem dMax2_eq (x y : Int) : dMax2 [.int x, .int y] = .ok (.int (if y > x then y else x)) := id rfl
@[simp] theorem dMin2_eq (x y : Int) : dMin2 [.int x, .int y] = .ok (.int (if y < x then y else x)) := id rfl
@[simp] theorem dTuple_lst (xs : List D) : dTuple [.lst xs] = .ok (.tup xs) := id rfl
@[simp] theorem dTuple_tup (xs : List D) : dTuple [.tup xs] = .ok (.tup xs) := id rfl
@[simp] theorem dInt1_bl (x : Bool) : dInt1 [.bl x] = .ok (.int (if x then 1 else 0)) := id rfl
@[simp] theorem dIx_tup (xs : List D) (x : Int) : dIx (.tup xs) (.int x) = optR (atI xs x) := id rfl
@[simp] theorem dIx_lst (xs : List D) (x : Int) : dIx (.lst xs) (.int x) = optR (atI xs x) := id rfl
@[simp] theorem dIx_str (xs : List Nat) (x : Int) : dIx (.str xs) (.int x) = (optR (atI xs x)).bind fun c => .ok (.str [c]) := id rfl
@[simp] theorem dIx_scr (xs : List Int) (x : Int) : dIx (.scr xs) (.int x) = (optR (atI xs x)).bind fun c => .ok (.int c) := id rfl
@[simp] theorem optR_some (x : α) : optR (some x) = .ok x := id rfl
@[simp] theorem dCut_tup (xs : List D) (lo hi : Option Int) : dCut (.tup xs) lo hi = .ok (.tup (cutL xs lo hi)) := id rfl
@[simp] theorem dCut_lst (xs : List D) (lo hi : Option Int) : dCut (.lst xs) lo hi = .ok (.lst (cutL xs lo hi)) := id rfl
@[simp] theorem dCut_str (xs : List Nat) (lo hi : Option Int) : dCut (.str xs) lo hi = .ok (.str (cutL xs lo hi)) := id rfl
@[simp] theorem dIsN_eq (x : D) : dIsN x .non = .ok (.bl x.isN) := id rfl
@[simp] theorem dNotN_eq (x : D) : dNotN x .non = .ok (.bl (!x.isN)) := id rfl
@[simp] theorem isN_non : D.isN .non = true := id rfl
@[simp] theorem isN_tup (xs : List D) : D.isN (.tup xs) = false := id rfl
@[simp] theorem isN_str (xs : List Nat) : D.isN (.str xs) = false := id rfl
@[simp] theorem isN_int (x : Int) : D.isN (.int x) = false := id rfl
@[simp] theorem isN_bl (x : Bool) : D.isN (.bl x) = false := id rfl
@[simp] theorem isN_lst (xs : List D) : D.isN (.lst xs) = false := id rfl
end
/-! sizes and the like, with their conditions -/
theorem atI_zero {α : Type} (x : α) (xs : List α) : atI (x :: xs) 0 = some x := by
  simp [atI, ixN]
theorem atI_ok {α : Type} {xs : List α} {i : Int} (h : 0 ≤ i) (h2 : i < xs.length) : ∃ x, atI xs i = some x ∧ xs[i.toNat]? = some x := by
  unfold atI ixN
  rw [if_pos h, if_pos h2]
  have : i.toNat < xs.length := by omega
  exact ⟨xs[i.toNat], by simp [this], by simp [this]⟩
@[simp] theorem atI_0 {α : Type} (a : α) (r : List α) : atI (a :: r) 0 = some a := by simp [atI, ixN]
@[simp] theorem atI_1 {α : Type} (a b : α) (r : List α) : atI (a :: b :: r) 1 = some b := by
  unfold atI ixN
  rw [if_pos (by decide), if_pos (by simp; omega)]
  rfl
@[simp] theorem atI_2 {α : Type} (a b c : α) (r : List α) : atI (a :: b :: c :: r) 2 = some c := by
  unfold atI ixN
  rw [if_pos (by decide), if_pos (by simp; omega)]
  rfl
theorem dMul_ok {i j : Int} (h : i.natAbs < 2 ^ 64 ∨ j.natAbs < 2 ^ 64) : dMul (.int i) (.int j) = .ok (.int (i * j)) := by
  exact if_pos h
theorem dMod_ok {i j : Int} (h : 0 < j) : dMod (.int i) (.int j) = .ok (.int (i % j)) := by
  exact if_pos h
theorem dDiv_ok {i j : Int} (h : 0 < j ∧ j < 1073741824) : dDiv (.int i) (.int j) = .ok (.int (i / j)) := by
  exact if_pos h
theorem dAdd_str {a b : List Nat} (h : a.length + b.length ≤ line) : dAdd (.str a) (.str b) = .ok (.str (a ++ b)) := by
  show (if a.length + b.length ≤ line then _ else _) = _
  rw [if_pos h]
theorem dAdd_tup {a b : List D} (h : a.length + b.length ≤ line) : dAdd (.tup a) (.tup b) = .ok (.tup (a ++ b)) := by
  show (if a.length + b.length ≤ line then _ else _) = _
  rw [if_pos h]
theorem dAdd_lst {a b : List D} (h : a.length + b.length ≤ line) : dAdd (.lst a) (.lst b) = .ok (.lst (a ++ b)) := by
  show (if a.length + b.length ≤ line then _ else _) = _
  rw [if_pos h]
theorem mkT_ok' {a : List D} (h : a.length ≤ line) : mkT a = .ok (.tup a) := by
  unfold mkT
  rw [if_pos h]
theorem mkL_ok' {a : List D} (h : a.length ≤ line) : mkL a = .ok (.lst a) := by
  unfold mkL
  rw [if_pos h]
@[simp] theorem mkT_small {a : List D} (h : a.length ≤ 1000) : mkT a = .ok (.tup a) := mkT_ok' (by unfold line; omega)
@[simp] theorem mkL_small {a : List D} (h : a.length ≤ 1000) : mkL a = .ok (.lst a) := mkL_ok' (by unfold line; omega)
theorem dRng1_ok {n : Nat} (h : n ≤ line) : dRng1 [.int n] = .ok (rngL 0 n) := by
  show (if small62 (n : Int) ∧ (n : Int).toNat ≤ line then R.ok (rngL 0 (n : Int).toNat) else R.un) = _
  rw [if_pos]
  · simp
  · unfold small62 line at *
    simp only [Int.toNat_natCast]
    omega
theorem dRng2_ok {i j : Int} (h1 : -1000000 ≤ i) (h2 : i ≤ 1000000) (h3 : -1000000 ≤ j) (h4 : j ≤ 1000000) : dRng2 [.int i, .int j] = .ok (rngL i (j - i).toNat) := by
  show (if small62 i ∧ small62 j ∧ (j - i).toNat ≤ line then R.ok (rngL i (j - i).toNat) else R.un) = _
  rw [if_pos]
  unfold small62 line
  omega
theorem dEq_ok {x y : D} (h1 : D.plain x 60 = true) (h2 : D.plain y 60 = true) : dEq x y = .ok (.bl (D.eqv x y)) := by
  unfold dEq
  rw [if_pos ⟨h1, h2⟩]
theorem dNe_ok {x y : D} (h1 : D.plain x 60 = true) (h2 : D.plain y 60 = true) : dNe x y = .ok (.bl (!D.eqv x y)) := by
  unfold dNe
  rw [if_pos ⟨h1, h2⟩]
@[simp] theorem dEq_int (x y : Int) : dEq (.int x) (.int y) = .ok (.bl (x == y)) := id rfl
@[simp] theorem dEq_str (x y : List Nat) : dEq (.str x) (.str y) = .ok (.bl (x == y)) := id rfl
@[simp] theorem dNe_int (x y : Int) : dNe (.int x) (.int y) = .ok (.bl (!(x == y))) := id rfl
@[simp] theorem dNe_str (x y : List Nat) : dNe (.str x) (.str y) = .ok (.bl (!(x == y))) := id rfl
theorem dNe_same {x : D} (h : D.plain x 60 = true) (e : D.eqv x x = true) : dNe x x = .ok (.bl false) := by
  rw [dNe_ok h h, e]
  rfl
@[simp] theorem dIn_tup {x : D} {xs : List D} (h : x.flat = true) (h2 : D.flats xs = true) : dIn x (.tup xs) = .ok (.bl (xs.any fun z => D.eqv z x)) := by
  unfold dIn dInB
  simp only
  rw [if_pos ⟨h, h2⟩]
  rfl
@[simp] theorem dNotIn_tup {x : D} {xs : List D} (h : x.flat = true) (h2 : D.flats xs = true) : dNotIn x (.tup xs) = .ok (.bl (!(xs.any fun z => D.eqv z x))) := by
  unfold dNotIn dInB
  simp only
  rw [if_pos ⟨h, h2⟩]
  rfl
@[simp] theorem flat_str (s : List Nat) : D.flat (.str s) = true := id rfl
@[simp] theorem flat_int (s : Int) : D.flat (.int s) = true := id rfl
@[simp] theorem flat_non : D.flat .non = true := id rfl
@[simp] theorem flats_nil : D.flats [] = true := id rfl
@[simp] theorem flats_cons (x : D) (xs : List D) : D.flats (x :: xs) = (x.flat && D.flats xs) := id rfl
@[simp] theorem eqv_str (x y : List Nat) : D.eqv (.str x) (.str y) = (x == y) := id rfl
@[simp] theorem eqv_int (x y : Int) : D.eqv (.int x) (.int y) = (x == y) := id rfl
@[simp] theorem eqv_tup (x y : List D) : D.eqv (.tup x) (.tup y) = D.eqvs x y := id rfl
@[simp] theorem eqv_lst (x y : List D) : D.eqv (.lst x) (.lst y) = D.eqvs x y := id rfl
@[simp] theorem eqvs_nil : D.eqvs [] [] = true := id rfl
@[simp] theorem eqvs_nc (y : D) (ys : List D) : D.eqvs [] (y :: ys) = false := id rfl
@[simp] theorem eqvs_cn (y : D) (ys : List D) : D.eqvs (y :: ys) [] = false := id rfl
@[simp] theorem eqvs_cons (x y : D) (xs ys : List D) : D.eqvs (x :: xs) (y :: ys) = (D.eqv x y && D.eqvs xs ys) := id rfl
@[simp] theorem plain_non (n : Nat) : D.plain .non n = true := by cases n <;> rfl
@[simp] theorem plain_bl (b : Bool) (n : Nat) : D.plain (.bl b) n = true := by cases n <;> rfl
@[simp] theorem plain_int (i : Int) (n : Nat) : D.plain (.int i) n = true := by cases n <;> rfl
@[simp] theorem plain_str (s : List Nat) (n : Nat) : D.plain (.str s) n = true := by cases n <;> rfl
@[simp] theorem plain_tup (s : List D) (n : Nat) : D.plain (.tup s) (n + 1) = D.plains s n := id rfl
@[simp] theorem plain_lst (s : List D) (n : Nat) : D.plain (.lst s) (n + 1) = D.plains s n := id rfl
@[simp] theorem plains_nil (n : Nat) : D.plains [] n = true := id rfl
@[simp] theorem plains_cons (x : D) (s : List D) (n : Nat) : D.plains (x :: s) n = (D.plain x n && D.plains s n) := id rfl
theorem plains_all {s : List D} {n : Nat} (h : ∀ x ∈ s, D.plain x n = true) : D.plains s n = true := by
  induction s with
  | nil => rfl
  | cons x s ih =>
    rw [plains_cons, h x List.mem_cons_self, ih fun y hy => h y (List.mem_cons_of_mem _ hy)]
    rfl
mutual
/-- without truths (True == 1), dicts -/
def D.nice : D → Bool
  | .non => true
  | .int _ => true
  | .str _ => true
  | .tup xs => D.nices xs
  | .lst xs => D.nices xs
  | _ => false
def D.nices : List D → Bool
  | [] => true
  | x :: xs => D.nice x && D.nices xs
end
@[simp] theorem nice_non : D.nice .non = true := id rfl
@[simp] theorem nice_int (i : Int) : D.nice (.int i) = true := id rfl
@[simp] theorem nice_str (s : List Nat) : D.nice (.str s) = true := id rfl
@[simp] theorem nice_tup (s : List D) : D.nice (.tup s) = D.nices s := id rfl
@[simp] theorem nice_lst (s : List D) : D.nice (.lst s) = D.nices s := id rfl
@[simp] theorem nices_nil : D.nices [] = true := id rfl
@[simp] theorem nices_cons (x : D) (s : List D) : D.nices (x :: s) = (D.nice x && D.nices s) := id rfl
theorem nices_all {s : List D} (h : ∀ x ∈ s, D.nice x = true) : D.nices s = true := by
  induction s with
  | nil => rfl
  | cons x s ih =>
    rw [nices_cons, h x List.mem_cons_self, ih fun y hy => h y (List.mem_cons_of_mem _ hy)]
    rfl
mutual
theorem eqv_nice : ∀ (x y : D), D.nice x = true → D.nice y = true → (D.eqv x y = true ↔ x = y)
  | .non, y, _, hy => by cases y <;> simp_all [D.eqv, D.nice]
  | .int i, y, _, hy => by cases y <;> simp_all [D.eqv, D.nice]
  | .str s, y, _, hy => by cases y <;> simp_all [D.eqv, D.nice]
  | .bl b, y, hx, _ => by simp [D.nice] at hx
  | .dct b, y, hx, _ => by simp [D.nice] at hx
  | .scr b, y, hx, _ => by simp [D.nice] at hx
  | .tup xs, y, hx, hy => by
    cases y with
    | tup ys =>
      simp only [D.eqv, D.tup.injEq]
      exact eqvs_nice xs ys hx hy
    | _ => simp_all [D.eqv, D.nice]
  | .lst xs, y, hx, hy => by
    cases y with
    | lst ys =>
      simp only [D.eqv, D.lst.injEq]
      exact eqvs_nice xs ys hx hy
    | _ => simp_all [D.eqv, D.nice]
theorem eqvs_nice : ∀ (xs ys : List D), D.nices xs = true → D.nices ys = true → (D.eqvs xs ys = true ↔ xs = ys)
  | [], [], _, _ => by simp [D.eqvs]
  | [], _ :: _, _, _ => by simp [D.eqvs]
  | _ :: _, [], _, _ => by simp [D.eqvs]
  | x :: xs, y :: ys, hx, hy => by
    have hx : D.nice x = true ∧ D.nices xs = true := by simpa using hx
    have hy : D.nice y = true ∧ D.nices ys = true := by simpa using hy
    simp only [D.eqvs, Bool.and_eq_true, List.cons.injEq, eqv_nice x y hx.1 hy.1, eqvs_nice xs ys hx.2 hy.2]
end
mutual
theorem eqv_refl : ∀ (x : D) (n : Nat), D.plain x n = true → D.eqv x x = true
  | .non, _, _ => rfl
  | .int i, _, _ => by simp [D.eqv]
  | .str s, _, _ => by simp [D.eqv]
  | .bl b, _, _ => by simp [D.eqv]
  | .dct b, n, hx => by cases n <;> simp [D.plain] at hx
  | .scr b, n, hx => by cases n <;> simp [D.plain] at hx
  | .tup xs, n, hx => by
    cases n with
    | zero => simp [D.plain] at hx
    | succ n =>
      simp only [D.eqv]
      exact eqvs_refl xs n (by simpa using hx)
  | .lst xs, n, hx => by
    cases n with
    | zero => simp [D.plain] at hx
    | succ n =>
      simp only [D.eqv]
      exact eqvs_refl xs n (by simpa using hx)
theorem eqvs_refl : ∀ (xs : List D) (n : Nat), D.plains xs n = true → D.eqvs xs xs = true
  | [], _, _ => rfl
  | x :: xs, n, hx => by
    have hx : D.plain x n = true ∧ D.plains xs n = true := by simpa using hx
    simp only [D.eqvs, eqv_refl x n hx.1, eqvs_refl xs n hx.2, Bool.and_self]
end
theorem eqv_dec {x y : D} (hx : D.nice x = true) (hy : D.nice y = true) [Decidable (x = y)] : D.eqv x y = decide (x = y) := by
  by_cases h : x = y
  · rw [decide_eq_true h, (eqv_nice x y hx hy).mpr h]
  · rw [decide_eq_false h]
    cases e : D.eqv x y with
    | false => rfl
    | true => exact absurd ((eqv_nice x y hx hy).mp e) h
end DD

set_option maxHeartbeats 8000000
/-! DDS: sets of texts, made of a list, a tuple or a text, and sorted at once -/
namespace DDS
open PySem PySem.Spec PyProof.Rows L2

def tx : Value → Str
  | .str x _ => x
  | _ => ⟨#[]⟩
def Ent (w : World) (e : Int × Value) : Prop := ∃ x tk, e = (hashStr w x, Value.str x tk)
/-- the texts xs, each once, stand in the set at a -/
def TX (w : World) (h : Heap) (a : Addr) (xs : List Str) : Prop :=
  ∃ (o : Obj) (es : Array (Int × Value)) (ep : Nat) (t : SetTable), (h.get? a = some o ∧ o.ExactSet ∧ o.data = .set es ep t) ∧ ((∀ e ∈ es.toList, Ent w e) ∧ (es.toList.map fun e => tx e.2) = xs ∧ xs.Nodup) ∧
    (es.size < scanBound ∧ t.fits es.size = true) ∧ (Ris t.place.toList ∧ (w.params.followText "set-order" = true ∨ t.led = true))
theorem TX.keep {w : World} {h h' : Heap} {a : Addr} {xs : List Str} (T : TX w h a xs) (k : ∀ o, h.get? a = some o → h'.get? a = some o) : TX w h' a xs := by
  obtain ⟨o, es, ep, t, ⟨h1, h2⟩, r⟩ := T
  exact ⟨o, es, ep, t, ⟨k o h1, h2⟩, r⟩
section
variable {P : Program} {w : World} {A : Around} {E : Value → Shared → Prop} {s : Shared} {a : Addr} {xs : List Str}
theorem ent_elems {l : List (Int × Value)} (g : ∀ e ∈ l, Ent w e) : ElemsOf (PySem.strKind P w) l := by
  intro e he
  obtain ⟨x, tk, rfl⟩ := g e he
  exact ⟨⟨x, strKind_is P w x tk, rfl⟩, rfl⟩
theorem ent_is {e : Int × Value} (g : Ent w e) (x : Str) : (PySem.strKind P w).is x e.2 = true ↔ tx e.2 = x := by
  obtain ⟨y, tk, rfl⟩ := g
  show Value.isStrOf x (.str y tk) = true ↔ y = x
  simp [Value.isStrOf]
/-- what stands behind an addition: the elder ones and x -/
def Grown (xs : List Str) (x : Str) (ys : List Str) : Prop := (∀ z, z ∈ ys ↔ z = x ∨ z ∈ xs) ∧ ys.length ≤ xs.length + 1
theorem tx_store {h : Heap} {o : Obj} {es es' : Array (Int × Value)} {ep : Nat} {t t' : SetTable} (ho : h.get? a = some o) (hd : o.data = .set es ep t) :
    (h.update a (Obj.putSet es' t')).get? a = some { o with data := .set es' (ep + 1) t' } := L2.store_at ho hd
theorem tx_tail {x : Str} {o : Obj} {es : Array (Int × Value)} {ep : Nat} {t : SetTable} (ho : s.heap.get? a = some o) (hex : o.ExactSet) (hd : o.data = .set es ep t) {es1 : Array (Int × Value)} {t2 : SetTable}
    (g1 : ∀ e ∈ es1.toList, Ent w e) (nd1 : (es1.toList.map fun e => tx e.2).Nodup) (gr : Grown xs x (es1.toList.map fun e => tx e.2)) (hb1 : es1.size < scanBound) (hf2 : t2.fits es1.size = true) (hr : Ris t2.place.toList)
    (hl : w.params.followText "set-order" = true ∨ t2.led = true) {gv : Bool → Sem Unit} (hg : ∀ (b : Bool) (s₁ : Shared) (Q' : Unit → Shared → Prop), Q' () s₁ → wpAny (model P w) A (gv b) Q' E s₁) {dm : Bool} {R : Option Bool → Shared → Prop}
    (hR : ∀ h' ys, Heap.SameBut a s.heap h' → TX w h' a ys → Grown xs x ys → R (some true) { s with heap := h' }) :
    wpAny (model P w) A (storeSet a es1 t2 >>= fun _ => if (!dm && t2.tooFull) = true then (gv (relayAll t2 es1 (SetTable.grown es1.size)).2.2 >>= fun _ => storeSet a (relayAll t2 es1 (SetTable.grown es1.size)).1 (relayAll t2 es1 (SetTable.grown es1.size)).2.1 >>= fun _ => pure (some true)) else pure (some true)) R E s := by
  have b1 := Heap.SameBut.update s.heap a (Obj.putSet es1 t2)
  have o1 := tx_store (a := a) (es' := es1) (t' := t2) ho hd
  refine wpAny_bind (wpAny_storeSet_of ho hd ?_ (fits_of_scanBound hb1))
  by_cases full : (!dm && t2.tooFull) = true
  · rw [if_pos full]
    have p1 := relayAll_perm t2 es1 (SetTable.grown es1.size)
    have p2 := relayAll_fits t2 es1 (SetTable.grown es1.size)
    have p3 := L2.relayAll_ris t2 es1 (SetTable.grown es1.size)
    have p4 := L2.relayAll_led t2 es1 (SetTable.grown es1.size)
    generalize relayAll t2 es1 (SetTable.grown es1.size) = Y at p1 p2 p3 p4 ⊢
    rcases Y with ⟨es2, t3, gave⟩
    dsimp only at p1 p2 p3 p4 ⊢
    have z2 : es2.size = es1.size := by
      rw [← Array.length_toList, p1.length_eq]
      exact Array.length_toList
    have hb2 : es2.size < scanBound := z2 ▸ hb1
    have pm := p1.map fun e => tx e.2
    refine wpAny_bind (hg gave _ _ (wpAny_bind (wpAny_storeSet_of o1 rfl ?_ (fits_of_scanBound hb2))))
    refine wpAny_pure (hR _ _ (b1.trans (Heap.SameBut.update _ a _)) ⟨_, es2, _, t3, ⟨tx_store o1 rfl, hex, rfl⟩, ⟨fun e he => g1 e (p1.mem_iff.mp he), rfl, pm.nodup_iff.mpr nd1⟩, ⟨hb2, p2⟩, p3, ?_⟩ ⟨fun z => pm.mem_iff.trans (gr.1 z), by rw [pm.length_eq]; exact gr.2⟩)
    rcases hl with l | l
    · exact .inl l
    · exact .inr (p4.trans l)
  · rw [if_neg full]
    exact wpAny_pure (hR _ _ b1 ⟨_, es1, _, t2, ⟨o1, hex, rfl⟩, ⟨g1, rfl, nd1⟩, ⟨hb1, hf2⟩, hr, hl⟩ gr)
theorem TX.add {x : Str} {tk : Tok} {Q : Bool → Shared → Prop} (T : TX w s.heap a xs) (room : xs.length + 1 < scanBound) (hQ : ∀ h' ys b, Heap.SameBut a s.heap h' → TX w h' a ys → Grown xs x ys → Q b { s with heap := h' }) :
    wpAny (model P w) A (setAddHashed a (.str x tk) ((PySem.strKind P w).hash x)) Q E s := by
  obtain ⟨o, es, ep, t, ⟨ho, hex, hd⟩, ⟨g, gx, nd⟩, ⟨hb, hf⟩, hr, hl⟩ := T
  have el := ent_elems (P := P) g
  have zl : es.size = xs.length := by rw [← gx, List.length_map, Array.length_toList]
  unfold setAddHashed setAddHashedIn
  refine wpAny_holding (wpAny_bind (wpAny_setState_of ho hd hf ?_))
  dsimp only
  rw [byScan_of (show (Value.str x tk).scannable = true from rfl) hb el]
  simp only [↓reduceIte]
  unfold setAddByScan
  refine wpAny_bind (wpAny_bind (wpAny_rule (wpAny_bind (wpAny_setScan_of (strKind_is P w x tk) ho hd hf el ?_))))
  cases fi : List.findIdx? (fun e => (PySem.strKind P w).is x e.2) es.toList with
  | some j =>
    dsimp only
    obtain ⟨hj, pj, _⟩ := List.findIdx?_eq_some_iff_getElem.mp fi
    have hx : x ∈ xs := by
      rw [← gx]
      exact List.mem_map.mpr ⟨es.toList[j], List.getElem_mem hj, (ent_is (g _ (List.getElem_mem hj)) x).mp pj⟩
    refine wpAny_pure (wpAny_pure (hQ s.heap xs _ (Heap.SameBut.refl a s.heap) ⟨o, es, ep, t, ⟨ho, hex, hd⟩, ⟨g, gx, nd⟩, ⟨hb, hf⟩, hr, hl⟩ ⟨fun z => ⟨.inr, fun q => q.elim (fun e => e ▸ hx) id⟩, Nat.le_succ _⟩))
  | none =>
    dsimp only
    have hx : x ∉ xs := fun m => by
      rw [← gx] at m
      obtain ⟨e, he, q⟩ := List.mem_map.mp m
      have no := List.findIdx?_eq_none_iff.mp fi e he
      rw [(ent_is (g e he) x).mpr q] at no
      exact Bool.noConfusion no
    have q1 := layNew_perm t es ((PySem.strKind P w).hash x) (.str x tk)
    have q2 := layNew_fits t es ((PySem.strKind P w).hash x) (.str x tk)
    have q3 := L2.layNew_ris t es ((PySem.strKind P w).hash x) (.str x tk) hr
    have q4 := L2.layNew_led t es ((PySem.strKind P w).hash x) (.str x tk)
    generalize layNew t es ((PySem.strKind P w).hash x) (.str x tk) = Y at q1 q2 q3 q4 ⊢
    rcases Y with ⟨es1, t1, dm, gave⟩
    dsimp only at q1 q2 q3 q4 ⊢
    rw [Array.toList_push] at q1
    have pc := q1.trans (List.perm_append_singleton _ _)
    have pk : (es1.toList.map fun e => tx e.2).Perm (x :: xs) := by
      have := pc.map fun e => tx e.2
      rw [List.map_cons, gx] at this
      exact this
    have g1 : ∀ e ∈ es1.toList, Ent w e := fun e he => (List.mem_cons.mp (pc.mem_iff.mp he)).elim (fun z => ⟨x, tk, z⟩) (g e)
    have nd1 := pk.nodup_iff.mpr (List.nodup_cons.mpr ⟨hx, nd⟩)
    have gr : Grown xs x (es1.toList.map fun e => tx e.2) := ⟨fun z => pk.mem_iff.trans List.mem_cons, by rw [pk.length_eq]; exact Nat.le_refl _⟩
    have z1 : es1.size = xs.length + 1 := by
      rw [← Array.length_toList, pc.length_eq, List.length_cons, Array.length_toList, zl]
    have hb1 : es1.size < scanBound := z1 ▸ room
    have hl1 : w.params.followText "set-order" = true ∨ t1.led = true := hl.elim .inl fun z => .inr (q4.trans z)
    have gw : ∀ (b : Bool) (s₁ : Shared) (Q' : Unit → Shared → Prop), Q' () s₁ → wpAny (model P w) A (match b with | true => rule "set.scan.the-table-gave-way" | false => pure ()) Q' E s₁ := fun b s₁ Q' q => by
      cases b
      · exact wpAny_pure q
      · exact wpAny_rule q
    refine wpAny_bind (gw gave _ _ ?_)
    split
    · refine wpAny_bind ?_
      rw [hashByValue_scannable 8 (show (Value.str x tk).scannable = true from rfl)]
      refine wpAny_pure (tx_tail ho hex hd g1 nd1 gr hb1 ?_ ?_ ?_ ?_ fun h' ys sb T' g' => wpAny_pure (hQ h' ys _ sb T' g'))
      · first | exact q2 | (split <;> first | exact q2 | exact SetTable.fits_plain_off q2)
      · first | exact q3 | (split <;> exact q3)
      · first | exact hl1 | (split <;> exact hl1)
      · exact gw
    · refine wpAny_bind (wpAny_pure ?_)
      simp only [↓reduceIte]
      exact tx_tail ho hex hd g1 nd1 gr hb1 q2 q3 hl1 gw fun h' ys sb T' g' => wpAny_pure (hQ h' ys _ sb T' g')
abbrev newS (w : World) : Obj := { cls := .type "set", dict := none, data := .set #[] 0 (.fresh 0 0 (!w.params.followText "set-order")) }
theorem tx_new {h : Heap} (e : h.get? a = some (newS w)) : TX w h a [] := by
  refine ⟨_, #[], 0, _, ⟨e, ⟨rfl, rfl, rfl⟩, rfl⟩, ⟨fun _ m => by simp at m, by simp, List.nodup_nil⟩, ⟨by decide, rfl⟩, List.Pairwise.nil, ?_⟩
  show _ ∨ (!w.params.followText "set-order") = true
  cases w.params.followText "set-order"
  · exact .inr rfl
  · exact .inl rfl
/-- the loop of an update puts in each text that the walk hands out -/
theorem upd_texts {I : Addr} {fp wr : List Addr} {G : Array GenState → Array GenState → Prop} {Pv : Nat → Value → Prop} {St : Nat → Shared → Prop} {R : Result → Shared → Prop} {S : Addr} {zs : List Str}
    (W : WalksS P w A.in1 I fp wr G zs.length Pv St) (ap : S ∉ fp) (room : zs.length + 1 < scanBound) (give : ∀ i v, Pv i v → ∃ y tk, zs[i]? = some y ∧ v = .str y tk) :
    ∀ (m i : Nat) (s : Shared) (ys : List Str), zs.length - i = m → i ≤ zs.length → St i s → TX w s.heap S ys → ys.length ≤ i → (∀ z, z ∈ ys ↔ z ∈ zs.take i) →
      (∀ s' ys', Moved (S :: wr) G s s' → TX w s'.heap S ys' → (∀ z, z ∈ ys' ↔ z ∈ zs) → R (.ok (.ret .none)) s') →
      codeAny (model P w) A (.builtin "set.update.loop" ⟨[.ref S, .ref I], []⟩) R s := by
  have nw : S ∉ wr := fun z => ap (W.sub _ z)
  have wd : ∀ b ∈ wr, b ∈ S :: wr := fun b z => List.mem_cons_of_mem _ z
  intro m
  induction m with
  | zero =>
    intro i s ys e1 e2 st T le mm fin
    obtain rfl : i = zs.length := Nat.le_antisymm e2 (by omega)
    refine codeAny_builtin F.entry_set_update_loop ?_
    rw [Around.under_plainId F.plain_set_update_loop _]
    refine wpAny_bind (m := pyNext (.ref I)) (W.done s _ _ st fun s' mv => ?_)
    rw [List.take_length] at mm
    exact wpAny_pure (fin s' _ (mv.mono wd) (T.keep fun o e => mv.heap S o nw e) mm)
  | succ m ih =>
    intro i s ys e1 e2 st T le mm fin
    have lt : i < zs.length := by omega
    refine codeAny_builtin F.entry_set_update_loop ?_
    rw [Around.under_plainId F.plain_set_update_loop _]
    refine wpAny_bind (m := pyNext (.ref I)) (W.item i s _ _ lt st fun v s' pv st' mv => ?_)
    obtain ⟨x, tk, hx, rfl⟩ := give i v pv
    have T' : TX w s'.heap S ys := T.keep fun o e => mv.heap S o nw e
    refine wpAny_bind (m := holding [Value.str x tk] (setAdd S (.str x tk))) (wpAny_holding ?_)
    unfold setAdd
    refine wpAny_holding (wpAny_bind ((PySem.strKind P w).pyHash (k := x) (strKind_is _ _ _ _) ?_))
    refine TX.add (s := { s' with toks := s'.toks + 1 }) T' (by omega) fun h' ys' _ sb T2 gr => ?_
    refine wpAny_pure ⟨plainId_quiet F.plain_set_update_loop _, ih (i + 1) _ ys' (by omega) lt (W.frame _ s' _ _ st' (Nat.le_succ _) fun b hb o e => ?_) T2 (by have := gr.2; omega) (fun z => ?_) fun s2 y2 mv2 T3 m3 => ?_⟩
    · rw [sb.2 b (fun q : b = S => ap (q ▸ hb))]; exact e
    · rw [gr.1, List.take_add_one, hx, mm]
      simp [or_comm]
    · refine fin s2 y2 (Moved.trans W.gtrans ((mv.mono wd).then_heap (Nat.le_succ _) fun b o hb e => ?_) mv2) T3 m3
      rw [sb.2 b (fun q : b = S => hb (q ▸ List.mem_cons_self))]; exact e
/-- a thing that hands out the texts zs when walked -/
structure Src (P : Program) (w : World) (T : String) (v : Value) (h : Heap) (zs : List Str) : Prop where
  ty : ∀ s' : Shared, (∀ b o, h.get? b = some o → s'.heap.get? b = some o) → s'.TypeIs v T
  ns : isSubtype (.type T) (.type "set") = pure false
  nf : isSubtype (.type T) (.type "frozenset") = pure false
  nd : (Value.type T == Value.type "dict") = false
  it : ∀ (A : Around) (E : Value → Shared → Prop) (s' : Shared) (Q : Value → Shared → Prop), A.handled = none → (∀ b o, h.get? b = some o → s'.heap.get? b = some o) →
    (∀ ob fp St Pv, (∀ A' : Around, A'.handled = none → Walks P w A' s'.heap.objs.size fp [s'.heap.objs.size] zs.length Pv St) → (∀ b ∈ fp, b = s'.heap.objs.size ∨ b < h.objs.size) →
      (∀ i x, Pv i x → ∃ y tk, zs[i]? = some y ∧ x = .str y tk) → St 0 (s'.heap.push ob) → Q (.ref s'.heap.objs.size) { s' with heap := s'.heap.push ob }) → wpAny (model P w) A (pyIter v) Q E s'
theorem set_from {T : String} {v : Value} {zs : List Str} {Q : Value → Shared → Prop} (S : Src P w T v s.heap zs) (hh : A.handled = none) (room : zs.length + 1 < scanBound)
    (hQ : ∀ (h' : Heap) (tk : Nat) ys, TX w h' s.heap.objs.size ys → (∀ z, z ∈ ys ↔ z ∈ zs) → (∀ b o, s.heap.get? b = some o → h'.get? b = some o) → Q (.ref s.heap.objs.size) { s with heap := h', toks := tk }) :
    wpAny (model P w) A (call (.type "set") [v]) Q E s := by
  obtain ⟨c, tl, mro⟩ := F.called_set.mro
  have f1 := F.called_set.made
  have f2 := F.called_set.sub
  have f3 := F.called_set.notType
  have f4 := F.called_set.canCreate
  have f5 := F.typeCall_set_1 v
  refine wpAny_call (codeAny_of_tree (show wpAny _ _ (callAny (.type "set") _) _ _ _ from wpAny_pure ⟨Code.quiet_builtin _ (by decide +kernel), codeAny_builtin F.entry_type_call ?_⟩))
  rw [Around.under_plain (weight_type_call_type "set" [v] []) rfl]
  repeat (any_goals (first | assumption | wp_step))
  refine codeAny_mono (code_set_led1 v (E := E) (Q₁ := fun ob s₁ => ob = .ref s.heap.objs.size ∧ s₁ = { s with heap := s.heap.push (newS w) }) ⟨rfl, rfl⟩) fun r s₁ hr => ?_
  rcases r with e | fl
  · exact hr
  cases fl
  all_goals try exact hr.elim
  · obtain ⟨rfl, rfl⟩ := hr
    have g0 : (s.heap.push (newS w)).get? s.heap.objs.size = some (newS w) := Heap.get?_push_size _ rfl
    have gT : Shared.TypeIs { s with heap := s.heap.push (newS w) } (.ref s.heap.objs.size) "set" := ⟨_, g0, rfl⟩
    have g1 := F.called_set.init.lookup
    have g2 := F.called_set.init.bind (.ref s.heap.objs.size)
    repeat (any_goals (first | assumption | wp_step))
    refine codeAny_mono (codeAny_call_builtin (R := wants (fun r s₂ => r = .none ∧ ∃ h' tk ys, s₂ = { s with heap := h', toks := tk } ∧ TX w h' s.heap.objs.size ys ∧ (∀ z, z ∈ ys ↔ z ∈ zs) ∧
          (∀ b o, s.heap.get? b = some o → h'.get? b = some o)) E) F.called_set.init.plain F.entry_set_init (check_set_init_1 gT ?_)) fun r₂ s₂ hr₂ => ?_
    · have q1 : Shared.TypeIs { s with heap := s.heap.push (newS w) } v T := S.ty _ fun b o e => Heap.get?_push_of_some _ e
      have q2 := S.ns
      have q3 := S.nf
      have q4 := S.nd
      unfold Builtin.«set.__init__» noKeywords Builtin.Frozenset.updateFrom
      generalize hPI : pyIter = PI
      wp_walk
      subst hPI
      refine S.it _ _ _ _ (by simp [hh]) (fun b o e => Heap.get?_push_of_some _ e) fun it fp St Pv W hfp give st => ?_
      have z1 : (s.heap.push (newS w)).objs.size = s.heap.objs.size + 1 := Heap.size_push ..
      refine wpAny_bind (wpAny_runValue (upd_texts (W _ (by simp [hh])).toS (fun m => ?_) room give (zs.length - 0) 0 _ [] (by omega) (Nat.zero_le _) st (tx_new (Heap.get?_push_of_some _ g0)) (Nat.zero_le _) (fun z => by simp) fun s' ys mv T' mm => ?_))
      · rcases hfp _ m with e | e
        · have e' : s.heap.objs.size = (s.heap.push (newS w)).objs.size := e
          exact absurd (e'.trans z1) (Nat.ne_of_lt (Nat.lt_succ_self _))
        · exact absurd e (Nat.lt_irrefl _)
      · obtain ⟨h', g', d', tk', o'⟩ := s'
        obtain rfl : g' = s.gens := mv.gens
        obtain rfl : d' = s.drawn := mv.drawn
        obtain rfl : o' = s.os := mv.os
        refine wpAny_pure (wpAny_pure ⟨rfl, h', tk', ys, rfl, T', mm, fun b o e => ?_⟩)
        have lt := Heap.lt_size e
        refine mv.heap b o (fun m => ?_) (Heap.get?_push_of_some _ (Heap.get?_push_of_some _ e))
        rcases List.mem_cons.mp m with m | m
        · exact absurd lt (by rw [m]; exact Nat.lt_irrefl _)
        · have m' : b = (s.heap.push (newS w)).objs.size := List.mem_singleton.mp m
          exact absurd lt (by rw [m', z1]; exact Nat.not_lt_of_le (Nat.le_succ _))
    · rcases r₂ with e | fl
      · exact hr₂
      cases fl
      all_goals try exact hr₂.elim
      · obtain ⟨rfl, h', tk, ys, rfl, T', mm, kk⟩ := hr₂
        repeat (any_goals (first | assumption | wp_step))
        exact hQ _ _ _ T' mm kk
end

open DD
section
variable {P : Program} {w : World} {A : Around} {E : Value → Shared → Prop} {s : Shared} {a : Addr} {xs : List Str}
abbrev IsTx (v : Value) (x : Str) : Prop := ∃ tk, v = .str x tk
theorem each_tx {h : Heap} {b : Addr} : ∀ {vs : List Value}, (∀ v ∈ vs, ∃ x tk, v = Value.str x tk) → PySem.W.EachIs IsTx vs (vs.map tx) ∧ PySem.W.EachIs (fun v b' => ∃ as, Reads h v (.str b') as ∧ b ∉ as) vs (vs.map tx)
  | [], _ => ⟨.nil, .nil⟩
  | v :: vs, h => by
    obtain ⟨x, tk, rfl⟩ := h v List.mem_cons_self
    have ih := each_tx (h := ‹Heap›) (b := b) fun u hu => h u (List.mem_cons_of_mem _ hu)
    exact ⟨.cons ⟨tk, rfl⟩ ih.1, .cons ⟨[], .str x tk, by simp⟩ ih.2⟩
theorem sorted_tx {Q : Value → Shared → Prop} (T : TX w s.heap a xs) (hh : A.handled = none) (hu : A.units + 4 < cLine)
    (hQ : ∀ s' p (out : List Value) (c : Nat), (∀ b o, s.heap.get? b = some o → s'.heap.get? b = some o) → s'.gens = s.gens → s'.os = s.os → s.heap.objs.size ≤ p →
      s'.heap.get? p = some (seqObj "list" out.toArray c) → PySem.W.EachIs IsTx out ((sortL (xs.map fun x => x.cps.toList)).map mkS) → Q (.ref p) s') :
    wpAny (model P w) A (call (.builtin "sorted") [.ref a]) Q E s := by
  obtain ⟨o, es, ep, t, ⟨ho, hex, hd⟩, ⟨g, gx, nd⟩, ⟨hb, hf⟩, hr, hl⟩ := T
  refine Calls.call_function_entry kind_sorted plain_sorted entry_sorted (args_sorted1 _) ?_
  unfold Builtin.«sorted»
  refine wpAny_bind (m := checkCount "sorted" 1 1 _) (wpAny_pure ?_)
  refine wpAny_bind (collect_set (A := A.in1) hh ⟨o, ho, hex.1, hd⟩ hf hb hr hl fun s1 vs k1 hz g1 o1 pm => ?_)
  have len : vs.length = xs.length := by rw [pm.length_eq, List.length_map, ← gx, List.length_map]
  have le : vs.length ≤ sizeLine := by rw [pm.length_eq, List.length_map, Array.length_toList]; exact fits_of_scanBound hb
  have at1 : ∀ v ∈ vs, ∃ x tk, v = Value.str x tk := fun v hv => by
    obtain ⟨e, he, q⟩ := List.mem_map.mp (pm.mem_iff.mp hv)
    obtain ⟨x, tk, rfl⟩ := g e he
    exact ⟨x, tk, q.symm⟩
  have pk : (vs.map tx).Perm xs := by
    have q := pm.map tx
    rw [List.map_map] at q
    rw [← gx]
    exact q
  refine wpAny_bind (wpAny_newList ?_ le)
  have hoL : (s1.heap.push (seqObj "list" vs.toArray 0)).get? s1.heap.objs.size = some (seqObj "list" vs.toArray 0) := Heap.get?_push_size _ rfl
  obtain ⟨e1, e2⟩ := each_tx (h := s1.heap.push (seqObj "list" vs.toArray 0)) (b := s1.heap.objs.size) at1
  refine wpAny_bind (wpAny_holding (PySem.W.list_sort_data (s := { s1 with heap := s1.heap.push (seqObj "list" vs.toArray 0) }) (enc := PyData.str) hoL e1 e2 (PySem.W.AllAlike.of fun _ _ => rfl) (PySem.W.Sortable.others fun b => ⟨fun z => (nomatch z), fun _ z => (nomatch z)⟩) (by rw [List.length_map]; exact le) (fun b _ => ?_) fun out ol oe => ?_))
  · show A.in1.units + 1 + 0 < cLine
    have : A.in1.units ≤ A.units + 1 := by simp
    omega
  · obtain ⟨c, hc⟩ := sortedHeap_at (vs := vs) (out := out.toArray) hoL
    refine wpAny_pure ⟨_, rfl, hQ _ s1.heap.objs.size out c (fun b u e => ?_) g1 o1 hz hc ?_⟩
    · have q := k1 b u e
      have lt := Heap.lt_size q
      show (sortedHeap (s1.heap.push (seqObj "list" vs.toArray 0)) s1.heap.objs.size vs out.toArray).get? b = some u
      rw [sortedHeap_old (Nat.ne_of_lt lt) (by rw [Heap.size_push]; exact Nat.lt_succ_of_lt lt)]
      exact Heap.get?_push_of_some _ q
    · have eq : (vs.map tx).mergeSort (PySem.W.dataLe false PyData.str) = (sortL (xs.map fun x => x.cps.toList)).map mkS := by
        have e0 : PySem.W.dataLe false PyData.str = fun a b : Str => decide (a.cps.toList ≤ b.cps.toList) := PySem.W.dataLe_str (fun b : Str => b)
        rw [e0]
        have p1 := (List.mergeSort_perm (vs.map tx) fun a b : Str => decide (a.cps.toList ≤ b.cps.toList)).trans pk
        have s1 : ((vs.map tx).mergeSort fun a b : Str => decide (a.cps.toList ≤ b.cps.toList)).Pairwise fun a b => decide (a.cps.toList ≤ b.cps.toList) = true :=
          List.pairwise_mergeSort (le := fun a b : Str => decide (a.cps.toList ≤ b.cps.toList)) (fun (a b c : Str) h1 h2 => decide_eq_true (List.le_trans (of_decide_eq_true h1) (of_decide_eq_true h2))) (fun (a b : Str) => by
            rcases List.le_total a.cps.toList b.cps.toList with h | h
            · rw [decide_eq_true h]; rfl
            · rw [decide_eq_true h, Bool.or_true]) _
        generalize ((vs.map tx).mergeSort fun a b : Str => decide (a.cps.toList ≤ b.cps.toList)) = ys at p1 s1
        have p2 := p1.map fun x : Str => x.cps.toList
        have s2 : SLe (ys.map fun x : Str => x.cps.toList) := List.pairwise_map.mpr (s1.imp fun h => List.not_lt.mpr (of_decide_eq_true h))
        rw [← sortL_of p2 s2, List.map_map]
        conv => lhs; rw [← List.map_id ys]
        exact List.map_congr_left fun x _ => (mkS_tl x).symm
      rw [← eq]
      exact oe
/-! three sources -/
theorem src_list {K : PySem.W.Frag} {X : Cx} {pins : List (Addr × Obj)} {σ : L2.St} {H : Hp} {l : Addr} {zs : List Str} (I : Inv X pins σ H s) (h : SqL X.K H l (zs.map V.str)) : Src X.prog X.w "list" (.ref l) s.heap zs := by
  obtain ⟨its, rv, pl, _⟩ := I.list h
  have hi := rv.strs
  have hl := pl.isList
  have len : its.toArray.size = zs.length := by rw [List.size_toArray, ← rv.length, List.length_map]
  have lt : l < s.heap.objs.size := by
    obtain ⟨o, e, _⟩ := hl
    exact Heap.lt_size e
  refine ⟨fun s' k => ?_, F.sub_list_set, F.sub_list_frozenset, by decide, fun A E s' Q hh k hq => ?_⟩
  · obtain ⟨o, e, c, _⟩ := hl
    exact ⟨o, k _ _ e, c⟩
  · have hl' : s'.heap.IsList l its.toArray := hl.at fun o e => k _ o e
    have lt' : l < s'.heap.objs.size := by
      obtain ⟨o, e, _⟩ := hl'
      exact Heap.lt_size e
    refine wpAny_pyIter_list hl' (hq _ [s'.heap.objs.size, l] (fun i h => h.IsListIter s'.heap.objs.size l i ∧ h.IsList l its.toArray) (fun i v => its.toArray[i]? = some v) (fun A' hA => by rw [← len]; exact Walks.list hA _ l (Nat.ne_of_lt lt') its.toArray) (fun b hb => ?_) (fun i x e => ?_) ⟨⟨_, Heap.get?_push_size _ rfl, rfl, rfl⟩, hl'.push _⟩)
    · simp only [List.mem_cons, List.not_mem_nil, or_false] at hb
      rcases hb with e | e
      · exact .inl e
      · exact .inr (e ▸ lt)
    · have hi2 : i < zs.length := by rw [← len]; exact (Array.getElem?_eq_some_iff.mp e).1
      obtain ⟨y, t, q, q2⟩ := hi.item i x (by simpa using e)
      exact ⟨y, t, q2, q⟩
theorem src_tup {K : PySem.W.Frag} {X : Cx} {pins : List (Addr × Obj)} {σ : L2.St} {H : Hp} {l : Addr} {zs : List Str} (I : Inv X pins σ H s) (h : SqT X.K H l (zs.map V.str)) : Src X.prog X.w "tuple" (.ref l) s.heap zs := by
  obtain ⟨its, rv, hl, _⟩ := I.tuple h
  have hi := rv.strs
  have len : its.toArray.size = zs.length := by rw [List.size_toArray, ← rv.length, List.length_map]
  have lt : l < s.heap.objs.size := by
    obtain ⟨o, e, _⟩ := hl
    exact Heap.lt_size e
  refine ⟨fun s' k => ?_, F.sub_tuple_set, F.sub_tuple_frozenset, by decide, fun A E s' Q hh k hq => ?_⟩
  · obtain ⟨o, e, c, _⟩ := hl
    exact ⟨o, k _ _ e, c⟩
  · have hl' : s'.heap.IsTuple l its.toArray := by
      obtain ⟨o, e, c, n, d⟩ := hl
      exact ⟨o, k _ _ e, c, n, d⟩
    have lt' : l < s'.heap.objs.size := by
      obtain ⟨o, e, _⟩ := hl'
      exact Heap.lt_size e
    refine wpAny_pyIter_tuple hl' (hq _ [s'.heap.objs.size, l] (fun i h => h.IsTupleIter s'.heap.objs.size l i ∧ h.IsTuple l its.toArray) (fun i v => its.toArray[i]? = some v) (fun A' hA => by rw [← len]; exact Walks.tuple hA _ l (Nat.ne_of_lt lt') its.toArray) (fun b hb => ?_) (fun i x e => ?_) ⟨⟨_, Heap.get?_push_size _ rfl, rfl, rfl⟩, hl'.push _⟩)
    · simp only [List.mem_cons, List.not_mem_nil, or_false] at hb
      rcases hb with e | e
      · exact .inl e
      · exact .inr (e ▸ lt)
    · obtain ⟨y, t, q, q2⟩ := hi.item i x (by simpa using e)
      exact ⟨y, t, q2, q⟩
def signs (x : Str) : List Str := x.cps.toList.map fun c => ⟨#[c]⟩
theorem src_text {P : Program} {w : World} {x : Str} {tk : Tok} (hs : isSubtype (.type "str") (.type "set") = pure false) (hf : isSubtype (.type "str") (.type "frozenset") = pure false) : Src P w "str" (.str x tk) s.heap (signs x) := by
  refine ⟨fun s' k => ?_, hs, hf, by decide, fun A E s' Q hh k hq => ?_⟩
  · first | exact rfl | trivial | exact ⟨_, rfl⟩
  · refine wpAny_pyIter_str fun o St W st => hq o _ St (SignAt x) (fun A' hA => ?_) (fun b hb => .inl (List.mem_singleton.mp hb)) (fun i v e => ?_) st
    · have e : (signs x).length = x.cps.size := by simp [signs]
      rw [e]
      exact W A' hA
    · obtain ⟨c, u, q, rfl⟩ := e
      refine ⟨⟨#[c]⟩, u, ?_, rfl⟩
      simp [signs, q]
theorem sub_str_set : isSubtype (.type "str") (.type "set") = pure false := by rw [isSubtype_type]; kernel_rfl
theorem sub_str_frozenset : isSubtype (.type "str") (.type "frozenset") = pure false := by rw [isSubtype_type]; kernel_rfl
/-- sorted(set(e)), e a list or tuple of texts, or a text -/
def rSS (K : PySem.W.Frag) : List V → Hp → VK → Prop := fun vs H Q => ∃ (v : V) (zs : List Str), vs = [v] ∧ ((∃ a, v = .ref a ∧ (SqL K H a (zs.map V.str) ∨ SqT K H a (zs.map V.str))) ∨ ∃ x, v = .str x ∧ zs = signs x) ∧ zs.length + 1 < scanBound ∧
  ∀ (ys : List Str) (p : Addr), ys.Nodup → (∀ z, z ∈ ys ↔ z ∈ zs) → H p = none → Q (.ref p) (upd H p (.lst ((sortL (ys.map fun x => x.cps.toList)).map fun x => V.str (mkS x))))
theorem vals_tx : ∀ {out : List Value} {ys : List Str}, PySem.W.EachIs IsTx out ys → Vals (ys.map V.str) out
  | _, _, .nil => .nil
  | _, _, .cons ⟨t, e⟩ r => .cons ⟨t, e⟩ (vals_tx r)
theorem pe_sortset {X : Cx} {e : Expr} {t : TA} {p p2 pos pos2 : Pos} (hc : X.calm = true) (hu : X.A.units + 4 < cLine) (hg : Gl X "sorted") (hm : X.mg "sorted" = none) (hg2 : Gl X "set") (hm2 : X.mg "set" = none) (ha : PA X [e] t)
    (hs : starEach [e] X.env = (false, eval e X.env) :: starEach [] X.env := by rfl) :
    PE X (.Call (.Name "sorted" p) [.Call (.Name "set" p2) [e] [] pos2] [] pos) (tCB (rSS X.K) t) := by
  refine ⟨fun pins s σ H Q I h => ?_⟩
  refine wpAny_Call_Name_kw (ld_blt I hg hm rfl ?_ (by decide) (by decide))
  refine PyProof.Rows.callWith_builtin1 ?_ rfl rfl
  refine Calls.spliced_cons ?_
  refine wpAny_Call_Name_kw (ld_blt I hg2 hm2 rfl ?_ (by decide) (by decide))
  refine PyProof.Rows.callWith_type1 (thn (ha.run pos2 pins s σ H _ I h) fun us s1 ⟨vs, H1, I1, r1, q1⟩ => ?_) hs rfl
  obtain ⟨v, zs, rfl, src, room, q1⟩ := q1
  obtain ⟨u, rfl, ru⟩ := r1.one
  have S : ∃ T, Src X.prog X.w T u s1.heap zs := by
    rcases src with ⟨a, rfl, h | h⟩ | ⟨x, rfl, rfl⟩
    · cases ru
      exact ⟨_, src_list (K := X.K) I1 h⟩
    · cases ru
      exact ⟨_, src_tup (K := X.K) I1 h⟩
    · obtain ⟨tk, rfl⟩ := ru
      exact ⟨_, src_text sub_str_set sub_str_frozenset⟩
  obtain ⟨T, S⟩ := S
  refine set_from S (I1.ok.hd hc) room fun h' tk ys T' mm kk => ?_
  have nd : ys.Nodup := by
    obtain ⟨_, _, _, _, _, ⟨_, _, n⟩, _⟩ := T'
    exact n
  refine wpAny_pure ?_
  refine sorted_tx (s := { s1 with heap := h', toks := tk }) T' (I1.ok.hd hc) hu fun s' p' out c k' g' o' hp hg' ev => ?_
  have z0 : s1.heap.objs.size ≤ h'.objs.size := by
    have := Heap.lt_size (show h'.get? s1.heap.objs.size = some _ from T'.choose_spec.choose_spec.choose_spec.choose_spec.1.1)
    exact Nat.le_of_lt this
  have hp1 : s1.heap.objs.size ≤ p' := Nat.le_trans z0 hp
  have hn : H1 p' = none := I1.hok.fresh hp1
  have ev' := vals_tx ev
  rw [List.map_map] at ev'
  have ll : ((sortL (ys.map fun x => x.cps.toList)).map fun x => V.str (mkS x)).length ≤ sizeLine := by
    rw [List.length_map, (sortL_perm _).length_eq, List.length_map]
    obtain ⟨_, es, _, _, _, ⟨_, gx, n⟩, ⟨hb, _⟩, _⟩ := T'
    rw [← gx, List.length_map, Array.length_toList]
    exact fits_of_scanBound hb
  have kk' : ∀ b o, s1.heap.get? b = some o → s'.heap.get? b = some o := fun b o e => k' b o (kk b o e)
  have J : Inv X pins σ (upd H1 p' (.lst ((sortL (ys.map fun x => x.cps.toList)).map fun x => V.str (mkS x)))) { s1 with heap := s'.heap, gens := s'.gens, drawn := s'.drawn, toks := s'.toks } :=
    I1.call (ch := []) (Un.laid kk' hp1 hn) (I1.hok.laid kk' hp1 ⟨ll, out, c, ev', hg'⟩) (by rw [g']; exact I1.bare) (fun _ z => nomatch z)
  have e : s' = { s1 with heap := s'.heap, gens := s'.gens, drawn := s'.drawn, toks := s'.toks } := by
    cases s'
    cases s1
    cases o'
    rfl
  rw [e]
  exact ⟨.ref p', _, J, rfl, q1 ys p' nd mm hn⟩
end
end DDS

/-! DDT: sorted of lists and tuples, sorted(set(..)), over data -/
namespace DD
open PySem PySem.Spec PyProof.Rows L2

/-! ### sorted(set(texts)) -/
def dedL : List (List Nat) → List (List Nat)
  | [] => []
  | x :: xs => if x ∈ xs then dedL xs else x :: dedL xs
theorem dedL_mem : ∀ (xs : List (List Nat)) z, z ∈ dedL xs ↔ z ∈ xs
  | [], z => Iff.rfl
  | x :: xs, z => by
    unfold dedL
    split
    · rename_i h
      rw [dedL_mem xs z, List.mem_cons]
      exact ⟨.inr, fun q => q.elim (fun e => e ▸ h) id⟩
    · rw [List.mem_cons, List.mem_cons, dedL_mem xs z]
theorem dedL_nodup : ∀ xs : List (List Nat), (dedL xs).Nodup
  | [] => List.nodup_nil
  | x :: xs => by
    unfold dedL
    split
    · exact dedL_nodup xs
    · rename_i h
      exact List.nodup_cons.mpr ⟨fun q => h ((dedL_mem xs x).mp q), dedL_nodup xs⟩
theorem sortL_perm_eq {a b : List (List Nat)} (p : a.Perm b) : sortL a = sortL b := sortL_of ((sortL_perm a).trans p) (sortL_sorted a)
theorem ded_of {ys zs : List (List Nat)} (nd : ys.Nodup) (m : ∀ z, z ∈ ys ↔ z ∈ zs) : sortL ys = sortL (dedL zs) :=
  sortL_perm_eq ((List.perm_ext_iff_of_nodup nd (dedL_nodup zs)).mpr fun z => (m z).trans (dedL_mem zs z).symm)
def texts : List D → Option (List (List Nat))
  | [] => some []
  | .str s :: xs => (texts xs).map (s :: ·)
  | _ => none
theorem texts_eq : ∀ {xs : List D} {zs : List (List Nat)}, texts xs = some zs → xs = zs.map .str
  | [], zs, h => by cases h; rfl
  | .str s :: xs, zs, h => by
    unfold texts at h
    obtain ⟨r, e, rfl⟩ := Option.map_eq_some_iff.mp h
    rw [texts_eq e]
    rfl
  | .non :: _, _, h => by cases h
  | .bl _ :: _, _, h => by cases h
  | .int _ :: _, _, h => by cases h
  | .tup _ :: _, _, h => by cases h
  | .lst _ :: _, _, h => by cases h
  | .dct _ :: _, _, h => by cases h
  | .scr _ :: _, _, h => by cases h
theorem texts_map : ∀ zs : List (List Nat), texts (zs.map .str) = some zs
  | [] => rfl
  | z :: zs => by
    show (texts (zs.map .str)).map _ = _
    rw [texts_map zs]
    rfl
/-- what sorted(set(zs)) is -/
def sortSet (zs : List (List Nat)) : D := .lst ((sortL (dedL zs)).map .str)
def dSS : List D → R D
  | [.lst xs] => match texts xs with
    | some zs => if zs.length < 4095 then .ok (sortSet zs) else .un
    | none => .un
  | [.tup xs] => match texts xs with
    | some zs => if zs.length < 4095 then .ok (sortSet zs) else .un
    | none => .un
  | [.str s] => if s.length < 4095 then .ok (sortSet (s.map fun c => [c])) else .un
  | _ => .un
theorem reps_strs_inv {K : PySem.W.Frag} {F : Hp} : ∀ {xs : List (List Nat)} {vs : List V}, Reps K F (xs.map .str) vs → vs = (xs.map mkS).map V.str ∧ ∀ k ∈ xs, k.length ≤ sizeLine ∧ PyData.strOk ⟨k.toArray⟩ = true
  | [], vs, h => ⟨h, fun _ z => nomatch z⟩
  | x :: xs, vs, h => by
    obtain ⟨v, r, rfl, ⟨rfl, h1, h2⟩, h3⟩ := h
    obtain ⟨rfl, h4⟩ := reps_strs_inv h3
    exact ⟨rfl, fun k hk => (List.mem_cons.mp hk).elim (fun e => e ▸ ⟨h1, h2⟩) (h4 k)⟩
theorem mkS_inj {a b : List Nat} (h : mkS a = mkS b) : a = b := by
  have := congrArg (fun s : Str => s.cps.toList) h
  simpa [tl_mkS] using this
theorem ss_end [Glo] {K : PySem.W.Frag} {F H : Hp} {Q : VK} {E : XK} {zs : List (List Nat)} (s : Same F H) (hk : ∀ k ∈ zs, k.length ≤ sizeLine ∧ PyData.strOk ⟨k.toArray⟩ = true) (hl : zs.length < 4095) (w : W F H (PV K Q) (.ok (sortSet zs)) E) :
    ∀ (ys : List Str) (p : Addr), ys.Nodup → (∀ z, z ∈ ys ↔ z ∈ zs.map mkS) → H p = none → Q (.ref p) (upd H p (.lst ((sortL (ys.map fun x => x.cps.toList)).map fun x => V.str (mkS x)))) := by
  intro ys p nd mm hp
  have nd' : (ys.map fun x : Str => x.cps.toList).Nodup := by
    refine List.pairwise_map.mpr (List.Pairwise.imp (fun {a b} h e => h ?_) nd)
    rw [← mkS_tl a, ← mkS_tl b, e]
  have mm' : ∀ z, z ∈ (ys.map fun x : Str => x.cps.toList) ↔ z ∈ zs := fun z => by
    constructor
    · intro h
      obtain ⟨x, hx, rfl⟩ := List.mem_map.mp h
      obtain ⟨k, hk, e⟩ := List.mem_map.mp ((mm x).mp hx)
      rw [← e, tl_mkS]
      exact hk
    · intro h
      exact List.mem_map.mpr ⟨mkS z, (mm _).mpr (List.mem_map.mpr ⟨z, h, rfl⟩), tl_mkS z⟩
  rw [ded_of nd' mm']
  have hm : ∀ k ∈ sortL (dedL zs), k.length ≤ sizeLine ∧ PyData.strOk ⟨k.toArray⟩ = true := fun k h => hk k ((dedL_mem zs k).mp ((sortL_perm _).mem_iff.mp h))
  have len : (dedL zs).length ≤ zs.length := by
    have : ∀ l : List (List Nat), (dedL l).length ≤ l.length := fun l => by
      induction l with
      | nil => exact Nat.le_refl _
      | cons x l ih =>
        unfold dedL
        split
        · exact Nat.le_trans ih (Nat.le_succ _)
        · exact Nat.succ_le_succ ih
    exact this zs
  have rr := reps_strs (K := K) (F := F) hm
  rw [List.map_map] at rr
  refine w _ _ (Gr.new s hp) _ (rep_lst_new (s.free hp) rr ?_)
  rw [List.length_map, (sortL_perm _).length_eq]
  exact Nat.le_trans len (Nat.le_trans (Nat.le_of_lt hl) (by rw [sizeLine_eq]; omega))
theorem strOk_sign {s : List Nat} (h : PyData.strOk ⟨s.toArray⟩ = true) {c : Nat} (hc : c ∈ s) : PyData.strOk ⟨[c].toArray⟩ = true := by
  unfold PyData.strOk at h ⊢
  simp only [List.all_toArray, List.all_eq_true] at h
  have := h c hc
  simpa using this
theorem cd_ss [Glo] {K : PySem.W.Frag} : CallD K (DDS.rSS K) dSS := by
  intro F H xs vs Q s r E w
  unfold dSS at w
  split at w
  · split at w
    · rename_i xs zs e
      obtain ⟨hl, w⟩ := of_ite w
      obtain ⟨v, rfl, p, vs, rfl, h1, h2, h3⟩ := reps1 r
      rw [texts_eq e] at h3
      obtain ⟨rfl, hk⟩ := reps_strs_inv h3
      exact ⟨_, zs.map mkS, rfl, .inl ⟨p, rfl, .inl (SqL.of (s _ _ h1))⟩, by rw [List.length_map]; unfold scanBound; omega, ss_end s hk hl w⟩
    · exact w.elim
  · split at w
    · rename_i xs zs e
      obtain ⟨hl, w⟩ := of_ite w
      obtain ⟨v, rfl, p, vs, rfl, h1, h2, h3⟩ := reps1 r
      rw [texts_eq e] at h3
      obtain ⟨rfl, hk⟩ := reps_strs_inv h3
      exact ⟨_, zs.map mkS, rfl, .inl ⟨p, rfl, .inr (Same.sqT s h1)⟩, by rw [List.length_map]; unfold scanBound; omega, ss_end s hk hl w⟩
    · exact w.elim
  · rename_i t
    obtain ⟨hl, w⟩ := of_ite w
    obtain ⟨v, rfl, rfl, h1, h2⟩ := reps1 r
    have e : DDS.signs ⟨t.toArray⟩ = (t.map fun c => [c]).map mkS := by
      simp [DDS.signs, mkS]
    refine ⟨_, DDS.signs ⟨t.toArray⟩, rfl, .inr ⟨_, rfl, rfl⟩, by rw [e, List.length_map, List.length_map]; unfold scanBound; omega, ?_⟩
    rw [e]
    refine ss_end s (fun k hk => ?_) (by rw [List.length_map]; exact hl) w
    obtain ⟨c, hc, rfl⟩ := List.mem_map.mp hk
    exact ⟨by show 1 ≤ _; rw [sizeLine_eq]; omega, strOk_sign h2 hc⟩
  · exact w.elim
theorem d_sortset [Glo] {X : Cx} {K : PySem.W.Frag} {E : XK} {e : Expr} {t : TA} {a : Env → R (List D)} {p p2 pos pos2 : Pos} (hc : X.calm = true) (hu : X.A.units + 4 < cLine) (hg : Gl X "sorted") (hm : X.mg "sorted" = none) (hg2 : Gl X "set") (hm2 : X.mg "set" = none) (ha : DA X K E [e] t a)
    (hs : starEach [e] X.env = (false, eval e X.env) :: starEach [] X.env := by rfl) (hK : X.K = K := by rfl) :
    DE X K E (.Call (.Name "sorted" p) [.Call (.Name "set" p2) [e] [] pos2] [] pos) (tCB (DDS.rSS K) t) (calls dSS a) := by
  subst hK
  exact ⟨DDS.pe_sortset hc hu hg hm hg2 hm2 ha.pa hs, ev_callB ha.ev cd_ss⟩

/-! ### sorted of a list or a tuple -/
def sortD (ds : List D) : List D := ds.mergeSort (PySem.W.dataLe false toPy)
def headD : D → Bool
  | .tup (_ :: _) => true
  | _ => false
def flatK : D → Bool
  | .bl _ => true
  | .int _ => true
  | .str _ => true
  | _ => false
def AlikeD (ds : List D) : Prop := ∀ x ∈ ds, ∀ y ∈ ds, PySem.W.alike (toPy x) (toPy y) = true
instance (ds : List D) : Decidable (AlikeD ds) := by unfold AlikeD; infer_instance
def SortOk (ds : List D) : Prop := D.plains ds 8 = true ∧ AlikeD ds ∧ ((∀ x ∈ ds, headD x = true) ∨ ∀ x ∈ ds, flatK x = true)
instance (ds : List D) : Decidable (SortOk ds) := by unfold SortOk; infer_instance
abbrev encB (b : V × D) : PyData := toPy b.2
def rSortD (K : PySem.W.Frag) : List V → Hp → VK → Prop := fun vs H Q => ∃ (a : Addr) (bs : List (V × D)), vs = [V.ref a] ∧ (SqL K H a (bs.map (·.1)) ∨ SqT K H a (bs.map (·.1))) ∧ (∀ b ∈ bs, Dp K H b.1 (encB b)) ∧
  PySem.W.AllAlike (bs.map encB) ∧ PySem.W.Sortable (bs.map encB) ∧ (∀ b ∈ bs, (encB b).depth ≤ 16) ∧ ∀ p, H p = none → Q (.ref p) (upd H p (.lst ((bs.mergeSort (PySem.W.dataLe false encB)).map (·.1))))
theorem each_of {X : Cx} {pins : List (Addr × Obj)} {σ : L2.St} {H : Hp} {s : Shared} (I : Inv X pins σ H s) {h : Heap} {l : Addr} (k : ∀ b o, s.heap.get? b = some o → h.get? b = some o) (hl : s.heap.objs.size ≤ l) :
    ∀ {bs : List (V × D)} {us : List Value}, Vals (bs.map (·.1)) us → (∀ b ∈ bs, Dp X.K H b.1 (encB b)) →
      PySem.W.EachIs (fun u (b : V × D) => RelV b.1 u) us bs ∧ PySem.W.EachIs (fun u (b : V × D) => ∃ as, Reads h u (encB b) as ∧ l ∉ as) us bs
  | [], us, r, _ => by cases r; exact ⟨.nil, .nil⟩
  | b :: bs, us, r, hd => by
    rw [List.map_cons] at r
    cases r with
    | cons r1 r2 =>
      have ih := each_of I k hl r2 fun b' hb => hd b' (List.mem_cons_of_mem _ hb)
      obtain ⟨as, rd⟩ := Dp.reads I _ _ _ (hd b List.mem_cons_self) r1
      refine ⟨.cons r1 ih.1, .cons ⟨as, Reads.keeps k rd, fun m => ?_⟩ ih.2⟩
      obtain ⟨o, e⟩ := PyProof.On.reads_mem_get rd l m
      exact absurd (Heap.lt_size e) (Nat.not_lt_of_le hl)
theorem vals_out : ∀ {bs : List (V × D)} {us : List Value}, PySem.W.EachIs (fun u (b : V × D) => RelV b.1 u) us bs → Vals (bs.map (·.1)) us
  | _, _, .nil => .nil
  | _, _, .cons r h => .cons r (vals_out h)
theorem cr_sortD {X : Cx} (hu : X.A.units + 64 < cLine) : CallR X (.builtin "sorted") (rSortD X.K) := by
  intro pins s σ H vs us Q I r h
  obtain ⟨a, bs, rfl, hsq, hdp, hal, hso, hdep, q⟩ := h
  rw [Vals.ref1 r]
  obtain ⟨T, o, its, n, hT, ho, hcl, hd, rv, hz⟩ : ∃ (T : String) (o : Obj) (its : List Value) (n : Nat), (T = "list" ∨ T = "tuple") ∧ s.heap.get? a = some o ∧ o.cls = .type T ∧ o.data = .seq its.toArray n ∧ Vals (bs.map (·.1)) its ∧ bs.length ≤ sizeLine := by
    rcases hsq with h | h
    · obtain ⟨its, rv, pl, z⟩ := I.list h
      obtain ⟨o, e, c, n, d⟩ := pl.isList
      exact ⟨"list", o, its, n, .inl rfl, e, c, d, rv, by rw [List.length_map] at z; exact z⟩
    · obtain ⟨its, rv, ⟨o, e, c, n, d⟩, z⟩ := I.tuple h
      exact ⟨"tuple", o, its, n, .inr rfl, e, c, d, rv, by rw [List.length_map] at z; exact z⟩
  have hl : its.length = bs.length := by
    have := rv.length
    rw [List.length_map] at this
    exact this.symm
  refine Calls.call_function_entry kind_sorted plain_sorted entry_sorted (args_sorted1 _) ?_
  unfold Builtin.«sorted»
  refine wpAny_bind (m := checkCount "sorted" 1 1 _) (wpAny_pure ?_)
  refine wpAny_bind (wpAny_collect_seq a hT ho hcl hd (fun h1 k1 => ?_) (by rw [List.size_toArray, hl]; exact hz))
  refine wpAny_bind (wpAny_newList ?_ (by simpa [hl] using hz))
  have eL : its.toArray.toList = its := by simp
  rw [eL]
  have I1 : Inv X pins σ H { s with heap := h1, toks := s.toks } := I.kept k1
  have hoL : (h1.push (seqObj "list" its.toArray 0)).get? h1.objs.size = some (seqObj "list" its.toArray 0) := Heap.get?_push_size _ rfl
  have kp : ∀ b o, h1.get? b = some o → (h1.push (seqObj "list" its.toArray 0)).get? b = some o := fun b o e => Heap.get?_push_of_some _ e
  obtain ⟨e1, e2⟩ := each_of I1 (h := h1.push (seqObj "list" its.toArray 0)) (l := h1.objs.size) kp (Nat.le_refl _) rv hdp
  refine wpAny_bind (wpAny_holding (PySem.W.list_sort_data (s := { s with heap := h1.push (seqObj "list" its.toArray 0) }) (enc := encB) hoL e1 e2 hal hso hz (fun b hb => ?_) fun out ol oe => ?_))
  · have := hdep b hb
    have : X.A.in1.units ≤ X.A.units + 1 := by simp
    omega
  · obtain ⟨c, hc⟩ := sortedHeap_at (vs := its) (out := out.toArray) hoL
    have rr := vals_out oe
    have hlen : ((bs.mergeSort (PySem.W.dataLe false encB)).map (·.1)).length ≤ sizeLine := by
      rw [List.length_map, List.length_mergeSort]
      exact hz
    have hn : H h1.objs.size = none := I1.hok.fresh (Nat.le_refl _)
    refine wpAny_pure ⟨_, rfl, .ref _, upd H h1.objs.size (.lst ((bs.mergeSort (PySem.W.dataLe false encB)).map (·.1))), I1.laid (t' := s.toks) (fun b u e => ?_) (Nat.le_refl _) ⟨hlen, out, c, rr, hc⟩, rfl, q _ hn⟩
    have lt := Heap.lt_size e
    rw [sortedHeap_old (Nat.ne_of_lt lt) (by rw [Heap.size_push]; exact Nat.lt_succ_of_lt lt)]
    exact kp b u e
def dSortedG : List D → R D
  | [.lst ds] => if SortOk ds then .ok (.lst (sortD ds)) else .un
  | [.tup ds] => if SortOk ds then .ok (.lst (sortD ds)) else .un
  | [.dct kvs] => dSortedD [.dct kvs]
  | _ => .un
theorem depth_le {K : PySem.W.Frag} {F : Hp} {x : D} {v : V} (h : D.plain x 8 = true) (r : Rep K F x v) : (toPy x).depth ≤ 16 := Nat.le_trans (shaped_py x v 8 h r).2 (by decide)
theorem plains_mem : ∀ {ds : List D} {n : Nat}, D.plains ds n = true → ∀ d ∈ ds, D.plain d n = true
  | [], _, _, _, m => nomatch m
  | x :: xs, n, h, d, m => by
    have h : D.plain x n = true ∧ D.plains xs n = true := by simpa [D.plains] using h
    rcases List.mem_cons.mp m with e | e
    · exact e ▸ h.1
    · exact plains_mem h.2 d e
theorem reps_zip {K : PySem.W.Frag} {F : Hp} : ∀ {ds : List D} {vs : List V}, Reps K F ds vs → ∃ bs : List (V × D), bs.map (·.1) = vs ∧ bs.map (·.2) = ds ∧ ∀ b ∈ bs, Rep K F b.2 b.1
  | [], vs, h => ⟨[], h.symm, rfl, fun _ m => nomatch m⟩
  | d :: ds, vs, h => by
    obtain ⟨v, r, rfl, h1, h2⟩ := h
    obtain ⟨bs, e1, e2, e3⟩ := reps_zip h2
    exact ⟨(v, d) :: bs, by rw [List.map_cons, e1], by rw [List.map_cons, e2], fun b m => (List.mem_cons.mp m).elim (fun e => e ▸ h1) (e3 b)⟩
theorem zip_reps {K : PySem.W.Frag} {F : Hp} : ∀ {bs : List (V × D)}, (∀ b ∈ bs, Rep K F b.2 b.1) → Reps K F (bs.map (·.2)) (bs.map (·.1))
  | [], _ => rfl
  | b :: bs, h => ⟨_, _, rfl, h b List.mem_cons_self, zip_reps fun b' m => h b' (List.mem_cons_of_mem _ m)⟩
theorem sort_rule [Glo] {K : PySem.W.Frag} {F H : Hp} {Q : VK} {E : XK} {ds : List D} {vs : List V} {p : Addr} (s : Same F H) (ok : SortOk ds) (h : SqL K H p vs ∨ SqT K H p vs) (r : Reps K F ds vs) (hz : vs.length ≤ sizeLine) (w : W F H (PV K Q) (.ok (.lst (sortD ds))) E) : rSortD K [.ref p] H Q := by
  obtain ⟨bs, e1, e2, e3⟩ := reps_zip r
  obtain ⟨h1, h2, h3⟩ := ok
  have md : ∀ b ∈ bs, b.2 ∈ ds := fun b m => e2 ▸ List.mem_map.mpr ⟨b, m, rfl⟩
  have hm : ∀ d, d ∈ bs.map encB → ∃ x ∈ ds, d = toPy x := fun d m => by
    obtain ⟨b, hb, rfl⟩ := List.mem_map.mp m
    exact ⟨b.2, md b hb, rfl⟩
  refine ⟨p, bs, rfl, by rw [e1]; exact h, fun b m => rep_dp s b.2 b.1 8 (plains_mem h1 _ (md b m)) (e3 b m), ?_, ?_, fun b m => depth_le (plains_mem h1 _ (md b m)) (e3 b m), fun q hq => ?_⟩
  · intro d hd d' hd'
    obtain ⟨x, hx, rfl⟩ := hm d hd
    obtain ⟨y, hy, rfl⟩ := hm d' hd'
    exact h2 x hx y hy
  · rcases h3 with h3 | h3
    · refine .inl fun d hd => ?_
      obtain ⟨x, hx, rfl⟩ := hm d hd
      have := h3 x hx
      cases x with
      | tup xs =>
        cases xs with
        | nil => cases this
        | cons y ys => exact ⟨_, _, rfl⟩
      | _ => cases this
    · refine .inr fun d hd => ?_
      obtain ⟨x, hx, rfl⟩ := hm d hd
      have := h3 x hx
      cases x <;> first | (cases this; done) | exact ⟨fun z => (nomatch z), fun _ z => (nomatch z)⟩
  · have es : (bs.mergeSort (PySem.W.dataLe false encB)).map (·.2) = sortD ds := by
      unfold sortD
      rw [← e2]
      exact List.map_mergeSort fun a _ b _ => rfl
    refine w _ _ (Gr.new s hq) _ ?_
    rw [← es]
    refine rep_lst_new (s.free hq) (zip_reps fun b m => e3 b ((List.mergeSort_perm _ _).mem_iff.mp m)) ?_
    rw [List.length_map, List.length_mergeSort, ← List.length_map (f := (·.1)), e1]
    exact hz
abbrev rSortedDT : List V → Hp → VK → Prop := fun xs H Q => ∃ (a : Addr) (kvs : List (Key × V)) (ks : List Str), xs = [.ref a] ∧ Rd H a (.dK kvs) ∧ kvs.map (·.1) = ks.map Sum.inr ∧ ks.length < 64 ∧
    ∀ ys p, ys.Perm ks → sortedS ys = true → H p = none → Q (.ref p) (upd H p (.lst (ys.map V.str)))
theorem cr_sortG {X : Cx} (hc : X.calm = true) (hu : X.A.units + 64 < cLine) : CallR X (.builtin "sorted") (fun xs H Q => rSortD X.K xs H Q ∨ rSortedDT xs H Q) := by
  intro pins s σ H vs us Q I r h
  rcases h with h | h
  · exact cr_sortD hu pins s σ H vs us Q I r h
  · exact call_sortedD hc pins s σ H vs us Q I r h
theorem cd_sortG [Glo] {K : PySem.W.Frag} : CallD K (fun xs H Q => rSortD K xs H Q ∨ rSortedDT xs H Q) dSortedG := by
  intro F H xs vs Q s r E w
  unfold dSortedG at w
  split at w
  · obtain ⟨ok, w⟩ := of_ite w
    obtain ⟨v, rfl, p, vs, rfl, h1, h2, h3⟩ := reps1 r
    exact .inl (sort_rule s ok (.inl (SqL.of (s _ _ h1))) h3 h2 w)
  · obtain ⟨ok, w⟩ := of_ite w
    obtain ⟨v, rfl, p, vs, rfl, h1, h2, h3⟩ := reps1 r
    exact .inl (sort_rule s ok (.inr (Same.sqT s h1)) h3 h2 w)
  · exact .inr (cd_sortedD F H _ vs Q s r E w)
  · exact w.elim
end DD

/-! DDU: all, any, sum, join, zip, enumerate, isinstance, over data -/
namespace DD
open PySem PySem.Spec PyProof.Rows L2

def truths : List D → Option (List Bool)
  | [] => some []
  | .bl b :: xs => (truths xs).map (b :: ·)
  | _ => none
theorem truths_eq : ∀ {xs : List D} {bs : List Bool}, truths xs = some bs → xs = bs.map .bl
  | [], _, h => by cases h; rfl
  | .bl s :: xs, zs, h => by
    unfold truths at h
    obtain ⟨r, e, rfl⟩ := Option.map_eq_some_iff.mp h
    rw [truths_eq e]
    rfl
  | .non :: _, _, h => by cases h
  | .str _ :: _, _, h => by cases h
  | .int _ :: _, _, h => by cases h
  | .tup _ :: _, _, h => by cases h
  | .lst _ :: _, _, h => by cases h
  | .dct _ :: _, _, h => by cases h
  | .scr _ :: _, _, h => by cases h
@[simp] theorem truths_map : ∀ bs : List Bool, truths (bs.map .bl) = some bs
  | [] => rfl
  | b :: bs => by
    show (truths (bs.map .bl)).map _ = _
    rw [truths_map bs]
    rfl
def wholes : List D → Option (List Int)
  | [] => some []
  | .int b :: xs => (wholes xs).map (b :: ·)
  | _ => none
theorem wholes_eq : ∀ {xs : List D} {bs : List Int}, wholes xs = some bs → xs = bs.map .int
  | [], _, h => by cases h; rfl
  | .int s :: xs, zs, h => by
    unfold wholes at h
    obtain ⟨r, e, rfl⟩ := Option.map_eq_some_iff.mp h
    rw [wholes_eq e]
    rfl
  | .non :: _, _, h => by cases h
  | .str _ :: _, _, h => by cases h
  | .bl _ :: _, _, h => by cases h
  | .tup _ :: _, _, h => by cases h
  | .lst _ :: _, _, h => by cases h
  | .dct _ :: _, _, h => by cases h
  | .scr _ :: _, _, h => by cases h
@[simp] theorem wholes_map : ∀ bs : List Int, wholes (bs.map .int) = some bs
  | [] => rfl
  | b :: bs => by
    show (wholes (bs.map .int)).map _ = _
    rw [wholes_map bs]
    rfl
section
variable {K : PySem.W.Frag}
theorem reps_bls {F : Hp} : ∀ {bs : List Bool} {vs : List V}, Reps K F (bs.map .bl) vs → vs = bs.map V.bl
  | [], _, h => h
  | b :: bs, vs, h => by
    obtain ⟨v, r, rfl, rfl, h2⟩ := h
    rw [reps_bls h2]
    rfl
theorem reps_is {F : Hp} : ∀ {bs : List Int} {vs : List V}, Reps K F (bs.map .int) vs → vs = bs.map V.int
  | [], _, h => h
  | b :: bs, vs, h => by
    obtain ⟨v, r, rfl, rfl, h2⟩ := h
    rw [reps_is h2]
    rfl
def dAny : List D → R D
  | [.lst xs] => match truths xs with
    | some bs => .ok (.bl (bs.any id))
    | none => .un
  | _ => .un
def dAll : List D → R D
  | [.lst xs] => match truths xs with
    | some bs => .ok (.bl (bs.all id))
    | none => .un
  | _ => .un
def dSum : List D → R D
  | [.lst xs] => match wholes xs with
    | some bs => .ok (.int bs.sum)
    | none => .un
  | _ => .un
theorem cd_any [Glo] : CallD K (rAny K) dAny := by
  intro F H xs vs Q s r E w
  unfold dAny at w
  split at w
  · split at w
    · rename_i e
      obtain ⟨v, rfl, p, vs, rfl, h1, h2, h3⟩ := reps1 r
      rw [truths_eq e] at h3
      exact ⟨p, _, rfl, by rw [← reps_bls h3]; exact SqL.of (s _ _ h1), W.ok s w _ rfl⟩
    · exact w.elim
  · exact w.elim
theorem cd_all [Glo] : CallD K (rAll K) dAll := by
  intro F H xs vs Q s r E w
  unfold dAll at w
  split at w
  · split at w
    · rename_i e
      obtain ⟨v, rfl, p, vs, rfl, h1, h2, h3⟩ := reps1 r
      rw [truths_eq e] at h3
      exact ⟨p, _, rfl, by rw [← reps_bls h3]; exact SqL.of (s _ _ h1), W.ok s w _ rfl⟩
    · exact w.elim
  · exact w.elim
theorem cd_sum [Glo] : CallD K (rSum K) dSum := by
  intro F H xs vs Q s r E w
  unfold dSum at w
  split at w
  · split at w
    · rename_i e
      obtain ⟨v, rfl, p, vs, rfl, h1, h2, h3⟩ := reps1 r
      rw [wholes_eq e] at h3
      exact ⟨p, _, rfl, by rw [← reps_is h3]; exact SqL.of (s _ _ h1), W.ok s w _ rfl⟩
    · exact w.elim
  · exact w.elim

/-! ### join -/
def joinL (sep : List Nat) : List (List Nat) → List Nat
  | [] => []
  | z :: r => r.foldl (fun acc p => acc ++ sep ++ p) z
theorem join_fold (a : List Nat) : ∀ (r : List (List Nat)) (acc : List Nat), (r.map mkS).foldl (fun acc p => acc ++ (mkS a).cps ++ p.cps) acc.toArray = (r.foldl (fun acc p => acc ++ a ++ p) acc).toArray
  | [], _ => rfl
  | x :: r, acc => by
    have e : acc.toArray ++ (mkS a).cps ++ (mkS x).cps = (acc ++ a ++ x).toArray := by simp [mkS]
    show (r.map mkS).foldl _ (acc.toArray ++ (mkS a).cps ++ (mkS x).cps) = _
    rw [e, join_fold a r]
    rfl
theorem join_eq (a : List Nat) (zs : List (List Nat)) : Txt.join (mkS a) (zs.map mkS) = mkS (joinL a zs) := by
  cases zs with
  | nil => rfl
  | cons x r =>
    show (⟨(r.map mkS).foldl _ (mkS x).cps⟩ : Str) = _
    have := join_fold a r x
    show (⟨(r.map mkS).foldl _ x.toArray⟩ : Str) = _
    rw [this]
    rfl
theorem join_mem (a : List Nat) : ∀ (r : List (List Nat)) (acc : List Nat) (c : Nat), c ∈ r.foldl (fun acc p => acc ++ a ++ p) acc → c ∈ acc ∨ c ∈ a ∨ ∃ z ∈ r, c ∈ z
  | [], acc, c, h => .inl h
  | x :: r, acc, c, h => by
    rcases join_mem a r _ c h with h | h | ⟨z, hz, hc⟩
    · rcases List.mem_append.mp h with h | h
      · rcases List.mem_append.mp h with h | h
        · exact .inl h
        · exact .inr (.inl h)
      · exact .inr (.inr ⟨x, List.mem_cons_self, h⟩)
    · exact .inr (.inl h)
    · exact .inr (.inr ⟨z, List.mem_cons_of_mem _ hz, hc⟩)
theorem strOk_iff {s : List Nat} : PyData.strOk ⟨s.toArray⟩ = true ↔ ∀ c ∈ s, c < 1114112 := by
  unfold PyData.strOk
  simp
def dJoin : D → List D → R D
  | .str a, [.lst xs] => match texts xs with
    | some zs => if (zs.map (·.length)).sum + zs.length * a.length ≤ 16777216 ∧ (joinL a zs).length ≤ line then .ok (.str (joinL a zs)) else .un
    | none => .un
  | _, _ => .un
theorem md_join [Glo] : MtD K (fun x xs H Q => ∃ a p, ∃ ys : List Str, x = .str a ∧ xs = [.ref p] ∧ (SqL K H p (ys.map V.str) ∨ SqT K H p (ys.map V.str)) ∧
    (ys.map (·.length)).sum + ys.length * a.length ≤ 16777216 ∧ Q (.str (Txt.join a ys)) H) dJoin := by
  intro F H x xs v vs Q s rx rs E w
  unfold dJoin at w
  split at w
  · split at w
    · rename_i _ a xs _ zs e
      obtain ⟨⟨hl, hz⟩, w⟩ := of_ite w
      obtain ⟨rfl, ha1, ha2⟩ := rx
      obtain ⟨v, rfl, p, vs, rfl, h1, h2, h3⟩ := reps1 rs
      rw [texts_eq e] at h3
      obtain ⟨rfl, hk⟩ := reps_strs_inv h3
      have el : ((zs.map mkS).map (·.length)) = zs.map (·.length) := by
        rw [List.map_map]
        exact List.map_congr_left fun z _ => by simp [mkS, Str.length]
      refine ⟨_, p, zs.map mkS, rfl, rfl, .inl (SqL.of (s _ _ h1)), by rw [el, List.length_map]; simpa [Str.length] using hl, ?_⟩
      have := join_eq a zs
      unfold mkS at this
      rw [show (zs.map mkS) = zs.map (fun s => (⟨s.toArray⟩ : Str)) from rfl, this]
      refine W.ok s w _ ⟨rfl, by rw [← line_eq]; exact hz, strOk_iff.mpr fun c hc => ?_⟩
      have ok : ∀ z ∈ zs, ∀ c ∈ z, c < 1114112 := fun z hz => strOk_iff.mp (hk z hz).2
      cases zs with
      | nil => cases hc
      | cons z r =>
        rcases join_mem a r z c hc with h | h | ⟨y, hy, h⟩
        · exact ok z List.mem_cons_self c h
        · exact strOk_iff.mp ha2 c h
        · exact ok y (List.mem_cons_of_mem _ hy) c h
    · exact w.elim
  · exact w.elim
end

/-! ### zip, enumerate -/
section
variable {X : Cx} {K : PySem.W.Frag} {E : XK}
def pairs : List D → List D → List D
  | x :: xs, y :: ys => .tup [x, y] :: pairs xs ys
  | _, _ => []
theorem pairs_get : ∀ {xs ys : List D} {i : Nat} {d : D}, (pairs xs ys)[i]? = some d → ∃ x y, xs[i]? = some x ∧ ys[i]? = some y ∧ d = .tup [x, y]
  | x :: xs, y :: ys, 0, d, e => by cases e; exact ⟨x, y, rfl, rfl, rfl⟩
  | x :: xs, y :: ys, i + 1, d, e => pairs_get (xs := xs) (ys := ys) (i := i) e
  | [], _, i, d, e => by cases i <;> cases e
  | x :: xs, [], i, d, e => by cases i <;> cases e
theorem pairs_len : ∀ {xs ys : List D}, (pairs xs ys).length = min xs.length ys.length
  | x :: xs, y :: ys => by
    show (pairs xs ys).length + 1 = _
    rw [pairs_len]
    simp only [List.length_cons]
    omega
  | [], _ => by simp [pairs]
  | x :: xs, [] => by simp [pairs]
theorem rep_pair {F : Hp} {T : Addr} {x y : D} {v u : V} (hT : F T = none) (rx : Rep K F x v) (ry : Rep K F y u) : Rep K (upd F T (.tup [v, u])) (.tup [x, y]) (.ref T) :=
  rep_tup_new hT ⟨v, [u], rfl, rx, u, [], rfl, ry, rfl⟩ (by show 2 ≤ sizeLine; decide)
theorem itOk_zipL [Glo] {F : Hp} {a b : Addr} {vs us : List V} {xs ys : List D} (h : SqL K F a vs) (h' : SqL K F b us) (hl : vs.length ≤ sizeLine) (r : Reps K F xs vs) (r' : Reps K F ys us) : ItOk K (Itz K a b) F (pairs xs ys) := by
  refine ⟨by rw [pairs_len, Reps.length r]; exact Nat.le_trans (Nat.min_le_left _ _) hl, fun F1 H s1 s2 => ⟨fun i d e => ?_, ?_⟩⟩
  · obtain ⟨x, y, ex, ey, rfl⟩ := pairs_get e
    obtain ⟨v, e1, r1⟩ := Reps.get r ex
    obtain ⟨u, e2, r2⟩ := Reps.get r' ey
    have q1 : SqL K H a vs := Same.seq (s1.trans s2) h
    have q2 : SqL K H b us := Same.seq (s1.trans s2) h'
    refine ⟨⟨vs, us, v, u, q1, q2, e1, e2⟩, fun z H' hy => ?_⟩
    obtain ⟨T, v', u', rfl, hT, rfl, p1, p2⟩ := hy
    have p1 := p1 vs q1
    have p2 := p2 us q2
    rw [e1] at p1
    rw [e2] at p2
    cases p1
    cases p2
    exact ⟨_, Gr.new s2 hT, rep_pair (s2.free hT) (Rep.mono s1 _ _ r1) (Rep.mono s1 _ _ r2)⟩
  · refine ⟨vs, us, Same.seq (s1.trans s2) h, Same.seq (s1.trans s2) h', ?_⟩
    rw [pairs_len, Reps.length r, Reps.length r']
    omega
theorem itOk_zipT [Glo] {F : Hp} {a b : Addr} {vs us : List V} {xs ys : List D} (h : SqT K F a vs) (h' : SqT K F b us) (hl : vs.length ≤ sizeLine) (r : Reps K F xs vs) (r' : Reps K F ys us) : ItOk K (RZ.ItzT K a b) F (pairs xs ys) := by
  refine ⟨by rw [pairs_len, Reps.length r]; exact Nat.le_trans (Nat.min_le_left _ _) hl, fun F1 H s1 s2 => ⟨fun i d e => ?_, ?_⟩⟩
  · obtain ⟨x, y, ex, ey, rfl⟩ := pairs_get e
    obtain ⟨v, e1, r1⟩ := Reps.get r ex
    obtain ⟨u, e2, r2⟩ := Reps.get r' ey
    have q1 : SqT K H a vs := Same.sqT (s1.trans s2) h
    have q2 : SqT K H b us := Same.sqT (s1.trans s2) h'
    refine ⟨⟨vs, us, v, u, q1, q2, e1, e2⟩, fun z H' hy => ?_⟩
    obtain ⟨T, v', u', rfl, hT, rfl, p1, p2⟩ := hy
    have p1 := p1 vs q1
    have p2 := p2 us q2
    rw [e1] at p1
    rw [e2] at p2
    cases p1
    cases p2
    exact ⟨_, Gr.new s2 hT, rep_pair (s2.free hT) (Rep.mono s1 _ _ r1) (Rep.mono s1 _ _ r2)⟩
  · refine ⟨vs, us, Same.sqT (s1.trans s2) h, Same.sqT (s1.trans s2) h', ?_⟩
    rw [pairs_len, Reps.length r, Reps.length r']
    omega
def dZip : List D → R (List D)
  | [.lst xs, .lst ys] => .ok (pairs xs ys)
  | [.tup xs, .tup ys] => .ok (pairs xs ys)
  | _ => .un
theorem i_zip [Glo] {elts : List Expr} {kk : Nat} {tpos : Pos} {e e2 : Expr} {p pos : Pos} {ta : TA} {a : Env → R (List D)} (hg : Gl X "zip") (hm : X.mg "zip" = none) (ha : DA X K E [e, e2] ta a) (hs : starEach [e, e2] X.env = (false, eval e X.env) :: starEach [e2] X.env := by rfl) (hpl : (backTo pos (starEach [e2] X.env)).any (·.1) = false := by rfl) (hK : X.K = K := by rfl) :
    DI X K E (.Tuple elts kk tpos) (.Call (.Name "zip" p) [e, e2] [] pos) (RZ.iZipA K ta) (itR dZip a) := by
  subst hK
  refine ⟨RZ.pi_zipA hg hm ha.pa hs hpl, fun F0 B F σ H ρ Rr ok w => ?_⟩
  refine ha.ev F0 B F σ H ρ _ ok (W.imp (W.bind w) fun xs F1 H1 g1 w1 vs r1 => ?_)
  have w1 : W F1 H1 (fun items F' H' => ∀ J, ItOk X.K J F' items → Rr J H') (dZip xs) E := w1
  unfold dZip at w1
  split at w1
  · obtain ⟨v, u, rfl, ⟨p1, vs, rfl, a1, a2, a3⟩, p2, us, rfl, b1, b2, b3⟩ := reps2 r1
    exact ⟨p1, p2, vs, us, rfl, .inl ⟨SqL.of (g1.fh _ _ a1), SqL.of (g1.fh _ _ b1), W.ok g1.fh w1 _ (itOk_zipL (SqL.of a1) (SqL.of b1) a2 a3 b3)⟩⟩
  · obtain ⟨v, u, rfl, ⟨p1, vs, rfl, a1, a2, a3⟩, p2, us, rfl, b1, b2, b3⟩ := reps2 r1
    exact ⟨p1, p2, vs, us, rfl, .inr ⟨Same.sqT g1.fh a1, Same.sqT g1.fh b1, W.ok g1.fh w1 _ (itOk_zipT a1 b1 a2 a3 b3)⟩⟩
  · exact w1.elim
def numb : Nat → List D → List D
  | _, [] => []
  | n, x :: xs => .tup [.int n, x] :: numb (n + 1) xs
theorem numb_get : ∀ {xs : List D} {n i : Nat} {d : D}, (numb n xs)[i]? = some d → ∃ x, xs[i]? = some x ∧ d = .tup [.int (n + i : Nat), x]
  | x :: xs, n, 0, d, e => by cases e; exact ⟨x, rfl, rfl⟩
  | x :: xs, n, i + 1, d, e => by
    obtain ⟨y, h1, h2⟩ := numb_get (xs := xs) (n := n + 1) (i := i) e
    exact ⟨y, h1, by rw [h2, show n + 1 + i = n + (i + 1) by omega]⟩
  | [], n, i, d, e => by cases i <;> cases e
theorem numb_len : ∀ {xs : List D} {n : Nat}, (numb n xs).length = xs.length
  | [], _ => rfl
  | x :: xs, n => by
    show (numb (n + 1) xs).length + 1 = _
    rw [numb_len]
    rfl
theorem itOk_enum [Glo] {F : Hp} {a : Addr} {vs : List V} {xs : List D} (h : SqL K F a vs) (hl : vs.length ≤ sizeLine) (r : Reps K F xs vs) : ItOk K (Ite K a) F (numb 0 xs) := by
  refine ⟨by rw [numb_len, Reps.length r]; exact hl, fun F1 H s1 s2 => ⟨fun i d e => ?_, ?_⟩⟩
  · obtain ⟨x, ex, rfl⟩ := numb_get e
    obtain ⟨v, e1, r1⟩ := Reps.get r ex
    have q1 : SqL K H a vs := Same.seq (s1.trans s2) h
    refine ⟨⟨vs, v, q1, e1⟩, fun z H' hy => ?_⟩
    obtain ⟨T, v', rfl, hT, rfl, p1⟩ := hy
    have p1 := p1 vs q1
    rw [e1] at p1
    cases p1
    rw [Nat.zero_add]
    exact ⟨_, Gr.new s2 hT, rep_pair (s2.free hT) rfl (Rep.mono s1 _ _ r1)⟩
  · refine ⟨vs, Same.seq (s1.trans s2) h, ?_⟩
    rw [numb_len, Reps.length r]
    exact Nat.le_refl _
def dEnum : List D → R (List D)
  | [.lst xs] => .ok (numb 0 xs)
  | _ => .un
theorem i_enum [Glo] {elts : List Expr} {kk : Nat} {tpos : Pos} {e : Expr} {p pos : Pos} {ta : TA} {a : Env → R (List D)} (hg : Gl X "enumerate") (hm : X.mg "enumerate" = none) (ha : DA X K E [e] ta a) (hs : starEach [e] X.env = [(false, eval e X.env)] := by rfl) (hK : X.K = K := by rfl) :
    DI X K E (.Tuple elts kk tpos) (.Call (.Name "enumerate" p) [e] [] pos) (iEnum K ta) (itR dEnum a) := by
  subst hK
  refine ⟨pi_enum hg hm ha.pa hs, fun F0 B F σ H ρ Rr ok w => ?_⟩
  refine ha.ev F0 B F σ H ρ _ ok (W.imp (W.bind w) fun xs F1 H1 g1 w1 vs r1 => ?_)
  have w1 : W F1 H1 (fun items F' H' => ∀ J, ItOk X.K J F' items → Rr J H') (dEnum xs) E := w1
  unfold dEnum at w1
  split at w1
  · obtain ⟨v, rfl, p1, vs, rfl, a1, a2, a3⟩ := reps1 r1
    exact ⟨p1, vs, rfl, SqL.of (g1.fh _ _ a1), W.ok g1.fh w1 _ (itOk_enum (SqL.of a1) a2 a3)⟩
  · exact w1.elim

/-! ### isinstance -/
def tyD : D → String
  | .non => "NoneType"
  | .bl _ => "bool"
  | .int _ => "int"
  | .str _ => "str"
  | .tup _ => "tuple"
  | .lst _ => "list"
  | .scr _ => "list"
  | .dct _ => "dict"
inductive Ty where
  | bool | int | str | tuple | list
def Ty.nm : Ty → String
  | .bool => "bool"
  | .int => "int"
  | .str => "str"
  | .tuple => "tuple"
  | .list => "list"
def isA : Ty → D → Bool
  | .bool, .bl _ => true
  | .int, .int _ => true
  | .int, .bl _ => true
  | .str, .str _ => true
  | .tuple, .tup _ => true
  | .list, .lst _ => true
  | .list, .scr _ => true
  | _, _ => false
theorem kit_isA (T : Ty) (d : D) : PySem.W.kitOne K (.type (tyD d)) (.type T.nm) = some (isA T d) := by
  refine kit_ty ?_
  cases T <;> cases d <;> (show kitB _ _ = some _) <;> simp only [tyD, Ty.nm, isA] <;> decide +kernel
theorem rep_ty {F H : Hp} (s : Same F H) {d : D} {v : V} (r : Rep K F d v) : TyX K H v (.type (tyD d)) := by
  cases d with
  | non => cases r; exact .base .non
  | bl b => cases r; exact .base (.bl b)
  | int i => cases r; exact .base (.int i)
  | str x => obtain ⟨rfl, _⟩ := r; exact .base (.str _)
  | tup xs =>
    obtain ⟨p, vs, rfl, h, _⟩ := r
    rcases h with (h | ⟨o, h⟩) | ⟨o, its, n, h1, h2, _⟩
    · exact .base (.tup (s _ _ h))
    · exact .fTuple (s _ _ h)
    · exact .kTuple h1 h2
  | lst xs =>
    obtain ⟨p, vs, rfl, h, _⟩ := r
    exact .base (.lst (s _ _ h))
  | scr ns =>
    obtain ⟨p, rfl, h, _⟩ := r
    rcases h with (h | ⟨o, h⟩) | ⟨o, its, n, h1, h2, _⟩
    · exact .base (.lst (s _ _ h))
    · exact .base (.frz (s _ _ h))
    · exact .kList h1 h2
  | dct kvs =>
    obtain ⟨p, kv, rfl, h, _⟩ := r
    exact .base (.dK (s _ _ h))
def isaV (T : Ty) (a : Env → R D) : Env → R D := fun ρ => (a ρ).bind fun d => .ok (.bl (isA T d))
theorem d_isa [Glo] {e : Expr} {te : TE} {a : Env → R D} {p p2 pos : Pos} {n : Str} (T : Ty) (hg : Gl X "isinstance") (hm : X.mg "isinstance" = none) (hg2 : Gl X n) (hm2 : X.mg n = none) (hb : bootBuiltins n = some (.type T.nm)) (hn : n ≠ "__name__") (hd : (n == ("__debug__" : Str)) = false) (he : DE X K E e te a)
    (hs : starEach [e, .Name n p2] X.env = (false, eval e X.env) :: starEach [.Name n p2] X.env := by rfl) (hs2 : starEach [.Name n p2] X.env = (false, eval (.Name n p2) X.env) :: starEach [] X.env := by rfl) (hpl : (backTo pos (starEach [.Name n p2] X.env)).any (·.1) = false := by rfl) (hK : X.K = K := by rfl) :
    DE X K E (.Call (.Name "isinstance" p) [e, .Name n p2] [] pos) (tCB (rIsi K) (tCons te (tCons (tC (.ty T.nm)) tNil))) (isaV T a) := by
  subst hK
  refine ⟨pe_callB call_isi hg hm rfl (pa_cons he.pe (pa_cons (pe_bltn hg2 hm2 hb rfl hn hd) pa_nil hs2) hs) (by decide) (by decide) hs hpl, fun F0 B F σ H ρ Q ok w => ?_⟩
  refine he.ev F0 B F σ H ρ _ ok (W.imp (W.bind w) fun x F1 H1 g1 w1 v r1 => ?_)
  exact ⟨v, .ty T.nm, .type (tyD x), .type T.nm, isA T x, rfl, .ty _, rep_ty g1.fh r1, kit_isA T x, W.ok g1.fh w1 _ rfl⟩
end
end DD

/-! DDV: more of the rules, and the equations of the new operations -/
namespace DD
open PySem PySem.Spec PyProof.Rows L2
section
variable {X : Cx} {K : PySem.W.Frag} {E : XK}
theorem d_gc [Glo] {x : Str} {v : V} {d : D} {pos : Pos} (hg : Gl X x) (h : ∃ u, X.mg x = some u ∧ RelV v u) (r : ∀ F, Rep K F d v) (hd : (x == ("__debug__" : Str)) = false := by decide) : DE X K E (.Name x pos) (tC v) (cst d) := by
  obtain ⟨u, hm, rv⟩ := h
  exact d_glob hg hm rv r hd
def dList : List D → R D
  | [.lst xs] => .ok (.lst xs)
  | [.tup xs] => .ok (.lst xs)
  | _ => .un
theorem cd_list [Glo] : CallD K (fun xs H Q => ∃ p ys, xs = [.ref p] ∧ (SqL K H p ys ∨ SqT K H p ys) ∧ ∀ l, H l = none → Q (.ref l) (upd H l (.lst ys))) dList := by
  intro F H xs vs Q s r E w
  unfold dList at w
  split at w
  · obtain ⟨v, rfl, p, vs, rfl, h1, h2, h3⟩ := reps1 r
    exact ⟨p, vs, rfl, .inl (SqL.of (s _ _ h1)), fun l hl => w _ _ (Gr.new s hl) _ (rep_lst_new (s.free hl) h3 h2)⟩
  · obtain ⟨v, rfl, p, vs, rfl, h1, h2, h3⟩ := reps1 r
    exact ⟨p, vs, rfl, .inr (Same.sqT s h1), fun l hl => w _ _ (Gr.new s hl) _ (rep_lst_new (s.free hl) h3 h2)⟩
  · exact w.elim
def repL {α : Type} (xs : List α) : Nat → List α
  | 0 => []
  | n + 1 => xs ++ repL xs n
theorem repL_eq {α : Type} (xs : List α) : ∀ n, repL xs n = (List.replicate n xs).flatten
  | 0 => rfl
  | n + 1 => by
    rw [List.replicate_succ, List.flatten_cons, ← repL_eq xs n]
    rfl
theorem repL_len {α : Type} (xs : List α) : ∀ n, (repL xs n).length = xs.length * n
  | 0 => by simp [repL]
  | n + 1 => by
    show (xs ++ repL xs n).length = _
    rw [List.length_append, repL_len xs n, Nat.mul_succ]
    omega
theorem reps_rep {F : Hp} {ds : List D} {vs : List V} (r : Reps K F ds vs) : ∀ n, Reps K F (repL ds n) (repL vs n)
  | 0 => rfl
  | n + 1 => Reps.append r (reps_rep r n)
def dRep : D → D → R D
  | .lst xs, .int k => if -(2 ^ 63) ≤ k ∧ k < 2 ^ 63 ∧ xs.length * k.toNat ≤ line then .ok (.lst (repL xs k.toNat)) else .un
  | _, _ => .un
theorem od_rep [Glo] : OpD K rRep dRep := by
  intro F H x y v u Q s rx ry E _ w
  unfold dRep at w
  split at w
  · rename_i xs k _
    obtain ⟨⟨h1, h2, h3⟩, w⟩ := of_ite w
    obtain ⟨p, vs, rfl, a1, a2, a3⟩ := rx
    cases ry
    have hl : vs.length * k.toNat ≤ sizeLine := by rw [← line_eq, ← Reps.length a3]; exact h3
    refine ⟨p, _, vs, rfl, rfl, s _ _ a1, h1, h2, hl, fun q hq => ?_⟩
    rw [← repL_eq]
    exact w _ _ (Gr.new s hq) _ (rep_lst_new (s.free hq) (reps_rep a3 _) (by rw [repL_len]; exact hl))
  · exact w.elim
theorem ne_rep : NoEr dRep := by
  intro x y c h
  unfold dRep at h
  split at h
  · split at h <;> cases h
  · cases h
theorem dRep_ok (xs : List D) (n : Nat) (h : xs.length * n ≤ line) (h2 : n < 1000000) : dRep (.lst xs) (.int n) = .ok (.lst (repL xs n)) := by
  unfold dRep
  simp only
  rw [if_pos ⟨by omega, by omega, by simpa using h⟩]
  simp
theorem hu4_of {k : Nat} {A : Around} (hr : Room k A) : A.units + 4 < cLine := by
  have := hr.units
  omega
end
end DD

/-! DDW: an empty dict compared -/
namespace DD
open PySem PySem.Spec PyProof.Rows L2
section
variable {X : Cx} {K : PySem.W.Frag} {E : XK}
theorem d_dict0 [Glo] {pos : Pos} : DE X K E (.Dict [] [] pos) tDNewK (cst (.dct [])) := ⟨pe_dnewK, fun F0 B F σ H ρ Q ok w p hp =>
  w _ _ (Gr.new ok.fh hp) _ ⟨p, [], rfl, upd_same, Nat.zero_le _, rfl⟩⟩
def rEqE : R2 := fun x y H Q => ∃ a b ks, x = .ref a ∧ y = .ref b ∧ H a = some (.dK ks) ∧ H b = some (.dK []) ∧ Q (.bl (ks.length == 0)) H
def rNeE : R2 := fun x y H Q => ∃ a b ks, x = .ref a ∧ y = .ref b ∧ H a = some (.dK ks) ∧ H b = some (.dK []) ∧ Q (.bl (!(ks.length == 0))) H
theorem op_neE (hu : X.A.units < cLine) : OpR X (compareOp .NotEq) rNeE := by
  intro pins s σ H x y v u Q I rx ry h
  obtain ⟨a, b, ks, rfl, rfl, ea, eb, q⟩ := h
  obtain rfl : v = Value.ref a := rx
  obtain rfl : u = Value.ref b := ry
  obtain ⟨_, ya, va, ra, da⟩ := (show ObjOk X.prog X.w H s.heap a (.dK ks) from I.hok a _ ea)
  obtain ⟨_, yb, vb, rb, db⟩ := (show ObjOk X.prog X.w H s.heap b (.dK []) from I.hok b _ eb)
  have lb : vb.length = 0 := rb.length.symm
  refine PySem.W.keq_ne (knd := mixKind X.prog X.w) (r := true) ya yb da db hu (fun e => ?_) ⟨.bl _, H, I, ?_, q⟩
  · rw [lb] at e
    rw [List.eq_nil_of_length_eq_zero e]
    exact .nil
  · show Value.bool _ = Value.bool _
    rw [Bool.and_true, lb, ra.length]
theorem op_eqE (hu : X.A.units < cLine) : OpR X (compareOp .Eq) rEqE := by
  intro pins s σ H x y v u Q I rx ry h
  obtain ⟨a, b, ks, rfl, rfl, ea, eb, q⟩ := h
  obtain rfl : v = Value.ref a := rx
  obtain rfl : u = Value.ref b := ry
  obtain ⟨_, ya, va, ra, da⟩ := (show ObjOk X.prog X.w H s.heap a (.dK ks) from I.hok a _ ea)
  obtain ⟨_, yb, vb, rb, db⟩ := (show ObjOk X.prog X.w H s.heap b (.dK []) from I.hok b _ eb)
  have lb : vb.length = 0 := rb.length.symm
  refine PySem.W.keq_eq (knd := mixKind X.prog X.w) (r := true) ya yb da db hu (fun e => ?_) ⟨.bl _, H, I, ?_, q⟩
  · rw [lb] at e
    rw [List.eq_nil_of_length_eq_zero e]
    exact .nil
  · show Value.bool _ = Value.bool _
    rw [Bool.and_true, lb, ra.length]
def dNeE : D → D → R D
  | .dct ks, .dct [] => .ok (.bl (!(ks.length == 0)))
  | _, _ => .un
def dEqE : D → D → R D
  | .dct ks, .dct [] => .ok (.bl (ks.length == 0))
  | _, _ => .un
theorem ne_neE : NoEr dNeE := by
  intro x y c
  unfold dNeE
  split <;> simp
theorem ne_eqE : NoEr dEqE := by
  intro x y c
  unfold dEqE
  split <;> simp
theorem od_neE [Glo] : OpD K rNeE dNeE := by
  intro F H x y v u Q s rx ry E _ w
  unfold dNeE at w
  split at w
  · obtain ⟨p, kv, rfl, a1, a2, a3⟩ := rx
    obtain ⟨q, kw, rfl, b1, b2, b3⟩ := ry
    have e : kw = [] := b3
    subst e
    refine ⟨p, q, kv, rfl, rfl, s _ _ a1, s _ _ b1, ?_⟩
    rw [← reps_keys a3]
    exact W.ok s w _ rfl
  · exact w.elim
theorem od_eqE [Glo] : OpD K rEqE dEqE := by
  intro F H x y v u Q s rx ry E _ w
  unfold dEqE at w
  split at w
  · obtain ⟨p, kv, rfl, a1, a2, a3⟩ := rx
    obtain ⟨q, kw, rfl, b1, b2, b3⟩ := ry
    have e : kw = [] := b3
    subst e
    refine ⟨p, q, kv, rfl, rfl, s _ _ a1, s _ _ b1, ?_⟩
    rw [← reps_keys a3]
    exact W.ok s w _ rfl
  · exact w.elim
/-! ### a text times an int -/
def rSMul : R2 := fun x y H Q => ∃ a n, x = .str a ∧ y = .int n ∧ MulOk a n ∧ Q (.str (Txt.mul a n)) H
theorem op_smul : OpR X (binaryOp .Mult) rSMul := by
  intro pins s σ H x y v u Q I rx ry h
  obtain ⟨a, n, rfl, rfl, ok, q⟩ := h
  obtain ⟨t, rfl⟩ := rx
  obtain ⟨t', rfl⟩ := ry
  exact SB.mul ok fun t k => ⟨.str _, H, I.tok k, ⟨_, rfl⟩, q⟩
theorem foldl_app (a : List Nat) : ∀ (n : Nat) (acc : List Nat), (List.replicate n a.toArray).foldl (· ++ ·) acc.toArray = (acc ++ repL a n).toArray
  | 0, acc => by simp [repL]
  | n + 1, acc => by
    rw [List.replicate_succ, List.foldl_cons]
    have e : acc.toArray ++ a.toArray = (acc ++ a).toArray := by simp
    rw [e, foldl_app a n]
    simp [repL, List.append_assoc]
theorem repL_nil {α : Type} : ∀ n, repL ([] : List α) n = []
  | 0 => rfl
  | n + 1 => repL_nil n
theorem mul_eq (a : List Nat) (n : Int) : Txt.mul (mkS a) n = mkS (repL a n.toNat) := by
  unfold Txt.mul
  by_cases h : n < 1
  · rw [if_pos h, show n.toNat = 0 by omega]
    rfl
  · rw [if_neg h]
    by_cases h2 : (n == 1 || (mkS a).length == 0) = true
    · rw [if_pos h2]
      rw [Bool.or_eq_true] at h2
      rcases h2 with h2 | h2
      · have : n = 1 := by simpa using h2
        subst this
        show mkS a = mkS (a ++ [])
        rw [List.append_nil]
      · have : a = [] := by simpa [mkS, Str.length] using h2
        subst this
        rw [repL_nil]
    · rw [if_neg h2]
      have := foldl_app a n.toNat []
      show (⟨_⟩ : Str) = _
      exact congrArg Str.mk this
def dMulS : D → D → R D
  | .str a, .int n => if a.length ≤ 1000 ∧ -1000 ≤ n ∧ n ≤ 1000 then .ok (.str (repL a n.toNat)) else .un
  | _, _ => .un
theorem ne_mulS : NoEr dMulS := by
  intro x y c
  unfold dMulS
  split <;> (try split) <;> simp
theorem repL_mem {α : Type} {a : List α} {z : α} : ∀ {n : Nat}, z ∈ repL a n → z ∈ a
  | 0, h => nomatch h
  | n + 1, h => (List.mem_append.mp h).elim id (repL_mem (n := n))
theorem od_mulS [Glo] : OpD K rSMul dMulS := by
  intro F H x y v u Q s rx ry E _ w
  unfold dMulS at w
  split at w
  · rename_i a n _
    obtain ⟨⟨h1, h2, h3⟩, w⟩ := of_ite w
    obtain ⟨rfl, r1, r2⟩ := rx
    cases ry
    have hl : a.length * n.toNat ≤ 1000 * 1000 := Nat.mul_le_mul h1 (by omega)
    have e := mul_eq a n
    refine ⟨_, _, rfl, rfl, ⟨?_, fun q1 q2 => ?_, fun q1 q2 => ?_⟩, ?_⟩
    · rw [Bool.or_eq_false_iff]
      exact ⟨decide_eq_false (by omega), decide_eq_false (by omega)⟩
    · have : (1000 : Int) ≤ (2 ^ 63 - 1) / n := (Int.le_ediv_iff_mul_le (by omega)).mpr (by omega)
      have : ((⟨a.toArray⟩ : Str).length : Int) ≤ 1000 := by
        have : (⟨a.toArray⟩ : Str).length = a.length := by simp [Str.length]
        omega
      omega
    · have : (⟨a.toArray⟩ : Str).length = a.length := by simp [Str.length]
      rw [this]
      unfold Builtin.Str.tooLong
      simp [decide_eq_false_iff_not]
      rw [sizeLine_eq]
      omega
    · have e : Txt.mul ⟨a.toArray⟩ n = ⟨(repL a n.toNat).toArray⟩ := e
      rw [e]
      exact W.ok s w _ ⟨rfl, by rw [repL_len, sizeLine_eq]; omega, strOk_sub r2 fun c hc => repL_mem hc⟩
  · exact w.elim
@[simp] theorem dNeE_eq (ks : List (List Nat × D)) : dNeE (.dct ks) (.dct []) = .ok (.bl (!(ks.length == 0))) := id rfl
end
end DD

/-! DDX: list of a text, is of truths, what is never reached -/
namespace DD
open PySem PySem.Spec PyProof.Rows L2
section
variable {X : Cx} {K : PySem.W.Frag} {E : XK}
/-- a statement of which nothing is promised -/
theorem s_dead [Glo] {st : Stmt} : DS X K E st (fun _ _ _ => False) (fun _ => .un) := ⟨⟨fun _ _ _ _ _ _ h => h.elim⟩, fun _ _ _ _ _ _ _ _ w => w⟩
theorem d_dead [Glo] {e : Expr} : DE X K E e (fun _ _ _ => False) (fun _ => .un) := ⟨⟨fun _ _ _ _ _ _ h => h.elim⟩, fun _ _ _ _ _ _ _ _ w => w⟩
def rIsB2 : R2 := fun x y H Q => ∃ a b, x = .bl a ∧ y = .bl b ∧ Q (.bl (decide (a = b))) H
def rIsnB2 : R2 := fun x y H Q => ∃ a b, x = .bl a ∧ y = .bl b ∧ Q (.bl (!decide (a = b))) H
def dIsB : D → D → R D
  | .bl a, .bl b => .ok (.bl (decide (a = b)))
  | _, _ => .un
def dIsnB : D → D → R D
  | .bl a, .bl b => .ok (.bl (!decide (a = b)))
  | _, _ => .un
theorem ne_isB : NoEr dIsB := by
  intro x y c
  unfold dIsB
  split <;> simp
theorem ne_isnB : NoEr dIsnB := by
  intro x y c
  unfold dIsnB
  split <;> simp
theorem od_isB [Glo] : OpD K rIsB2 dIsB := by
  intro F H x y v u Q s rx ry E _ w
  unfold dIsB at w
  split at w
  · cases rx
    cases ry
    exact ⟨_, _, rfl, rfl, W.ok s w _ rfl⟩
  · exact w.elim
theorem od_isnB [Glo] : OpD K rIsnB2 dIsnB := by
  intro F H x y v u Q s rx ry E _ w
  unfold dIsnB at w
  split at w
  · cases rx
    cases ry
    exact ⟨_, _, rfl, rfl, W.ok s w _ rfl⟩
  · exact w.elim
@[simp] theorem dIsB_eq (a b : Bool) : dIsB (.bl a) (.bl b) = .ok (.bl (decide (a = b))) := id rfl
@[simp] theorem dIsnB_eq (a b : Bool) : dIsnB (.bl a) (.bl b) = .ok (.bl (!decide (a = b))) := id rfl
/-! list(text) -/
def rListS : List V → Hp → VK → Prop := fun xs H Q => ∃ x : Str, xs = [.str x] ∧ x.cps.size ≤ sizeLine ∧ ∀ l, H l = none → Q (.ref l) (upd H l (.lst ((DDS.signs x).map V.str)))
theorem signs_vals {x : Str} {acc : Array Value} (h : ItemsOf (SignAt x) acc x.cps.size) : Vals ((DDS.signs x).map V.str) acc.toList := by
  have len : ((DDS.signs x).map V.str).length = acc.toList.length := by
    have a : acc.toList.length = x.cps.size := by rw [Array.length_toList]; exact h.1
    rw [List.length_map, a]
    simp [DDS.signs]
  have : ∀ (vs : List V) (us : List Value), vs.length = us.length → (∀ (i : Nat) v u, vs[i]? = some v → us[i]? = some u → RelV v u) → Vals vs us := by
    intro vs
    induction vs with
    | nil =>
      intro us hl _
      cases us with
      | nil => exact .nil
      | cons _ _ => cases hl
    | cons v vs ih =>
      intro us hl hr
      cases us with
      | nil => cases hl
      | cons u us => exact .cons (hr 0 v u rfl rfl) (ih us (by simpa using hl) fun i v' u' h1 h2 => hr (i + 1) v' u' (by simpa using h1) (by simpa using h2))
  refine this _ _ len fun i v u h1 h2 => ?_
  obtain ⟨c, t, h3, rfl⟩ := h.2 i u (by rw [← Array.getElem?_toList]; exact h2)
  have e : (DDS.signs x)[i]? = some ⟨#[c]⟩ := by simp [DDS.signs, h3]
  rw [List.getElem?_map, e] at h1
  cases h1
  exact ⟨t, rfl⟩
theorem call_listS (hc : X.calm = true) : CallR X (.type "list") rListS := by
  intro pins s σ H xs us Q I r h
  obtain ⟨x, rfl, hz, q⟩ := h
  obtain ⟨u, rfl, t, rfl⟩ := vals1 r
  refine call_list_str (I.ok.hd hc) x t (fun h' tk acc c kp e it => ?_) hz
  have rv := signs_vals it
  have zl : ((DDS.signs x).map V.str).length ≤ sizeLine := by
    rw [List.length_map]
    simpa [DDS.signs] using hz
  exact ⟨.ref s.heap.objs.size, _, I.laid (t' := tk) kp (Nat.le_refl _) (show ObjOk X.prog X.w _ h' _ (.lst ((DDS.signs x).map V.str)) from ⟨zl, acc.toList, c, rv, e⟩), rfl, q _ (I.hok.fresh (Nat.le_refl _))⟩
abbrev rListOf (K : PySem.W.Frag) : List V → Hp → VK → Prop := fun xs H Q => ∃ p ys, xs = [.ref p] ∧ (SqL K H p ys ∨ SqT K H p ys) ∧ ∀ l, H l = none → Q (.ref l) (upd H l (.lst ys))
theorem cr_list (hc : X.calm = true) : CallR X (.type "list") (fun xs H Q => rListOf X.K xs H Q ∨ rListS xs H Q) := by
  intro pins s σ H xs us Q I r h
  rcases h with h | h
  · exact call_list_of pins s σ H xs us Q I r h
  · exact call_listS hc pins s σ H xs us Q I r h
def dListG : List D → R D
  | [.str s] => .ok (.lst (s.map fun c => .str [c]))
  | xs => dList xs
theorem cd_listG [Glo] : CallD K (fun xs H Q => rListOf K xs H Q ∨ rListS xs H Q) dListG := by
  intro F H xs vs Q s r E w
  unfold dListG at w
  split at w
  · rename_i t
    obtain ⟨v, rfl, rfl, h1, h2⟩ := reps1 r
    refine .inr ⟨_, rfl, by simpa using h1, fun l hl => ?_⟩
    have e : DDS.signs ⟨t.toArray⟩ = (t.map fun c => [c]).map mkS := by simp [DDS.signs, mkS]
    have e2 : t.map (fun c => D.str [c]) = (t.map fun c => [c]).map D.str := by rw [List.map_map]; rfl
    rw [e2] at w
    rw [e]
    refine w _ _ (Gr.new s hl) _ (rep_lst_new (s.free hl) (reps_strs fun k hk => ?_) (by simpa using h1))
    obtain ⟨c, hc, rfl⟩ := List.mem_map.mp hk
    exact ⟨by show 1 ≤ _; rw [sizeLine_eq]; omega, strOk_sign h2 hc⟩
  · exact .inl (cd_list F H _ vs Q s r E w)
@[simp] theorem dListG_str (s : List Nat) : dListG [.str s] = .ok (.lst (s.map fun c => .str [c])) := id rfl
@[simp] theorem dListG_tup (s : List D) : dListG [.tup s] = .ok (.lst s) := id rfl
@[simp] theorem dListG_lst (s : List D) : dListG [.lst s] = .ok (.lst s) := id rfl
end
end DD

/-! DDY: int of a figure, sorted of a text -/
namespace DD
open PySem PySem.Spec PyProof.Rows L2
section
variable {X : Cx} {K : PySem.W.Frag} {E : XK}
abbrev rInt1 : List V → Hp → VK → Prop := fun xs H Q => (∃ i, xs = [.int i] ∧ Q (.int i) H) ∨ ∃ k, xs = [.bl k] ∧ Q (.int (if k then 1 else 0)) H
abbrev rIntS : List V → Hp → VK → Prop := fun xs H Q => ∃ a n, xs = [.str a] ∧ PySem.intText? a = some n ∧ a.length ≤ 640 ∧ Q (.int n) H
theorem cr_intG : CallR X (.type "int") (fun xs H Q => rInt1 xs H Q ∨ rIntS xs H Q) := by
  intro pins s σ H xs us Q I r h
  rcases h with h | h
  · exact call_int1 pins s σ H xs us Q I r h
  · exact call_int_str pins s σ H xs us Q I r h
def dIntG : List D → R D
  | [.str [c]] => if 48 ≤ c ∧ c ≤ 57 then .ok (.int ((c : Int) - 48)) else .un
  | xs => dInt1 xs
theorem intText_fig (c : Nat) (h : 48 ≤ c ∧ c ≤ 57) : PySem.intText? ⟨[c].toArray⟩ = some ((c : Int) - 48) := by
  have : c = 48 ∨ c = 49 ∨ c = 50 ∨ c = 51 ∨ c = 52 ∨ c = 53 ∨ c = 54 ∨ c = 55 ∨ c = 56 ∨ c = 57 := by omega
  rcases this with h | h | h | h | h | h | h | h | h | h <;> subst h <;> decide +kernel
theorem cd_intG [Glo] : CallD K (fun xs H Q => rInt1 xs H Q ∨ rIntS xs H Q) dIntG := by
  intro F H xs vs Q s r E w
  unfold dIntG at w
  split at w
  · rename_i c
    obtain ⟨h, w⟩ := of_ite w
    obtain ⟨v, rfl, rfl, h1, h2⟩ := reps1 r
    exact .inr ⟨_, _, rfl, intText_fig c h, by show ([c].toArray).size ≤ 640; simp, W.ok s w _ rfl⟩
  · exact .inl (cd_int1 F H _ vs Q s r E w)
@[simp] theorem dIntG_bl (x : Bool) : dIntG [.bl x] = .ok (.int (if x then 1 else 0)) := id rfl
theorem dIntG_fig {c : Nat} (h : 48 ≤ c ∧ c ≤ 57) : dIntG [.str [c]] = .ok (.int ((c : Int) - 48)) := by
  show (if 48 ≤ c ∧ c ≤ 57 then _ else _) = _
  rw [if_pos h]
/-! sorted of a text -/
def rSortS : List V → Hp → VK → Prop := fun vs H Q => ∃ x : Str, vs = [.str x] ∧ x.cps.size ≤ sizeLine ∧ ∀ p, H p = none → Q (.ref p) (upd H p (.lst ((sortL ((DDS.signs x).map fun z => z.cps.toList)).map fun z => V.str (mkS z))))
theorem cr_sortS (hc : X.calm = true) (hu : X.A.units + 64 < cLine) : CallR X (.builtin "sorted") rSortS := by
  intro pins s σ H vs us Q I r h
  obtain ⟨x, rfl, hz, q⟩ := h
  obtain ⟨u, rfl, t, rfl⟩ := vals1 r
  refine Calls.call_function_entry kind_sorted plain_sorted entry_sorted (args_sorted1 _) ?_
  unfold Builtin.«sorted»
  refine wpAny_bind (m := checkCount "sorted" 1 1 _) (wpAny_pure ?_)
  refine wpAny_bind (wpAny_collect_str (A := X.A.in1) (I.ok.hd hc) x t (fun s1 acc k1 g1 d1 o1 it => ?_) hz)
  have len : acc.toList.length = x.cps.size := by rw [Array.length_toList]; exact it.1
  have le : acc.toList.length ≤ sizeLine := by rw [len]; exact hz
  have rv := signs_vals it
  have at1 : ∀ v ∈ acc.toList, ∃ y tk, v = Value.str y tk := fun v hv => by
    obtain ⟨i, hi⟩ := List.getElem?_of_mem hv
    obtain ⟨c, tk, _, rfl⟩ := it.2 i v (by rw [← Array.getElem?_toList]; exact hi)
    exact ⟨_, _, rfl⟩
  have txs : acc.toList.map DDS.tx = DDS.signs x := by
    refine List.ext_getElem? fun i => ?_
    rw [List.getElem?_map]
    cases e : acc.toList[i]? with
    | none =>
      have : x.cps.size ≤ i := by rw [← len]; exact List.getElem?_eq_none_iff.mp e
      simp [DDS.signs, this]
    | some v =>
      obtain ⟨c, tk, hc', rfl⟩ := it.2 i v (by rw [← Array.getElem?_toList]; exact e)
      simp [DDS.signs, hc', DDS.tx]
  refine wpAny_bind (wpAny_newList ?_ le)
  have hoL : (s1.heap.push (seqObj "list" acc.toList.toArray 0)).get? s1.heap.objs.size = some (seqObj "list" acc.toList.toArray 0) := Heap.get?_push_size _ rfl
  obtain ⟨e1, e2⟩ := DDS.each_tx (h := s1.heap.push (seqObj "list" acc.toList.toArray 0)) (b := s1.heap.objs.size) at1
  refine wpAny_bind (wpAny_holding (PySem.W.list_sort_data (s := { s1 with heap := s1.heap.push (seqObj "list" acc.toList.toArray 0) }) (enc := PyData.str) hoL e1 e2 (PySem.W.AllAlike.of fun _ _ => rfl) (PySem.W.Sortable.others fun b => ⟨fun z => (nomatch z), fun _ z => (nomatch z)⟩) (by rw [List.length_map]; exact le) (fun b _ => ?_) fun out ol oe => ?_))
  · show X.A.in1.units + 1 + 0 < cLine
    have : X.A.in1.units ≤ X.A.units + 1 := by simp
    omega
  · obtain ⟨c, hc'⟩ := sortedHeap_at (vs := acc.toList) (out := out.toArray) hoL
    have eq : (acc.toList.map DDS.tx).mergeSort (PySem.W.dataLe false PyData.str) = (sortL ((DDS.signs x).map fun z => z.cps.toList)).map mkS := by
      have e0 : PySem.W.dataLe false PyData.str = fun a b : Str => decide (a.cps.toList ≤ b.cps.toList) := PySem.W.dataLe_str (fun b : Str => b)
      rw [e0, txs]
      have p1 := List.mergeSort_perm (DDS.signs x) fun a b : Str => decide (a.cps.toList ≤ b.cps.toList)
      have s1 : ((DDS.signs x).mergeSort fun a b : Str => decide (a.cps.toList ≤ b.cps.toList)).Pairwise fun a b => decide (a.cps.toList ≤ b.cps.toList) = true :=
        List.pairwise_mergeSort (le := fun a b : Str => decide (a.cps.toList ≤ b.cps.toList)) (fun (a b c : Str) h1 h2 => decide_eq_true (List.le_trans (of_decide_eq_true h1) (of_decide_eq_true h2))) (fun (a b : Str) => by
          rcases List.le_total a.cps.toList b.cps.toList with h | h
          · rw [decide_eq_true h]; rfl
          · rw [decide_eq_true h, Bool.or_true]) _
      generalize ((DDS.signs x).mergeSort fun a b : Str => decide (a.cps.toList ≤ b.cps.toList)) = ys at p1 s1
      have p2 := p1.map fun x : Str => x.cps.toList
      have s2 : SLe (ys.map fun x : Str => x.cps.toList) := List.pairwise_map.mpr (s1.imp fun h => List.not_lt.mpr (of_decide_eq_true h))
      rw [← sortL_of p2 s2, List.map_map]
      conv => lhs; rw [← List.map_id ys]
      exact List.map_congr_left fun x _ => (mkS_tl x).symm
    rw [eq] at oe
    have rr := DDS.vals_tx oe
    rw [List.map_map] at rr
    generalize hL : (sortL ((DDS.signs x).map fun z => z.cps.toList)) = L at rr q
    have I1 : Inv X pins σ H s1 := by
      have J : Inv X pins σ H { s with heap := s1.heap, gens := s1.gens, drawn := s1.drawn, toks := s1.toks } :=
        I.call (ch := []) (Un.kept k1) (I.hok.kept k1) (by rw [g1]; exact I.bare) (fun _ z => nomatch z)
      have e : s1 = { s with heap := s1.heap, gens := s1.gens, drawn := s1.drawn, toks := s1.toks } := by
        cases s1
        cases s
        cases o1
        rfl
      rw [e]
      exact J
    have ll : (L.map fun z => V.str (mkS z)).length ≤ sizeLine := by
      rw [List.length_map, ← hL, (sortL_perm _).length_eq, List.length_map]
      simpa [DDS.signs] using hz
    have hn : H s1.heap.objs.size = none := I1.hok.fresh (Nat.le_refl _)
    refine wpAny_pure ⟨_, rfl, .ref _, upd H s1.heap.objs.size (.lst (L.map fun z => V.str (mkS z))), I1.laid (t' := s1.toks) (fun b u e => ?_) (Nat.le_refl _) ⟨ll, out, c, rr, hc'⟩, rfl, q _ hn⟩
    have lt := Heap.lt_size e
    rw [sortedHeap_old (Nat.ne_of_lt lt) (by rw [Heap.size_push]; exact Nat.lt_succ_of_lt lt)]
    exact Heap.get?_push_of_some _ e
def dSortedH : List D → R D
  | [.str s] => .ok (.lst ((sortL (s.map fun c => [c])).map .str))
  | xs => dSortedG xs
theorem cr_sortH (hc : X.calm = true) (hu : X.A.units + 64 < cLine) : CallR X (.builtin "sorted") (fun xs H Q => rSortS xs H Q ∨ (rSortD X.K xs H Q ∨ rSortedDT xs H Q)) := by
  intro pins s σ H vs us Q I r h
  rcases h with h | h
  · exact cr_sortS hc hu pins s σ H vs us Q I r h
  · exact cr_sortG hc hu pins s σ H vs us Q I r h
theorem cd_sortH [Glo] : CallD K (fun xs H Q => rSortS xs H Q ∨ (rSortD K xs H Q ∨ rSortedDT xs H Q)) dSortedH := by
  intro F H xs vs Q s r E w
  unfold dSortedH at w
  split at w
  · rename_i t
    obtain ⟨v, rfl, rfl, h1, h2⟩ := reps1 r
    refine .inl ⟨_, rfl, by simpa using h1, fun l hl => ?_⟩
    have e : (DDS.signs ⟨t.toArray⟩).map (fun z => z.cps.toList) = t.map fun c => [c] := by simp [DDS.signs]
    rw [e]
    have rr := reps_strs (K := K) (F := F) (xs := sortL (t.map fun c => [c])) fun k hk => by
      obtain ⟨c, hc, rfl⟩ := List.mem_map.mp ((sortL_perm _).mem_iff.mp hk)
      exact ⟨by show 1 ≤ _; rw [sizeLine_eq]; omega, strOk_sign h2 hc⟩
    rw [List.map_map] at rr
    refine w _ _ (Gr.new s hl) _ (rep_lst_new (s.free hl) rr ?_)
    rw [List.length_map, (sortL_perm _).length_eq, List.length_map]
    exact h1
  · exact .inr (cd_sortG F H _ vs Q s r E w)
@[simp] theorem dSortedH_str (s : List Nat) : dSortedH [.str s] = .ok (.lst ((sortL (s.map fun c => [c])).map .str)) := id rfl
end
end DD

/-! DDZ: range downwards, lists made longer, tuples and lists the other way round -/
namespace DD
open PySem PySem.Spec PyProof.Rows L2
section
variable {X : Cx} {K : PySem.W.Frag} {E : XK}
def rngD (lo : Int) (n : Nat) : List D := (List.range n).map fun i => .int (lo - (i : Nat))
def dRng3 : List D → R (List D)
  | [.int i, .int j, .int c] => if c = -1 ∧ small62 i ∧ small62 j ∧ (i - j).toNat ≤ line then .ok (rngD i (i - j).toNat) else .un
  | _ => .un
theorem itOk_rngD [Glo] {F : Hp} {lo : Int} {n : Nat} (hn : n ≤ line) : ItOk K (Itc lo (-1) n) F (rngD lo n) := by
  have hl : (rngD lo n).length = n := by simp [rngD]
  refine ⟨by rw [hl, ← line_eq]; exact hn, fun F1 H s1 s2 => ⟨fun i d e => ?_, ?_⟩⟩
  · have hi : i < n := by
      have := (List.getElem?_eq_some_iff.mp e).1
      rw [hl] at this
      exact this
    refine ⟨hi, fun x H' hy => ?_⟩
    obtain ⟨rfl, rfl⟩ := hy
    refine ⟨F1, Gr.refl s2, ?_⟩
    have : (rngD lo n)[i]? = some (.int (lo - (i : Nat))) := by simp [rngD, hi]
    rw [this] at e
    cases e
    show V.int _ = V.int _
    congr 1
    omega
  · show n ≤ _
    rw [hl]
    exact Nat.le_refl _
theorem i_rng3 [Glo] {tg e e2 e3 : Expr} {p pos : Pos} {ta : TA} {a : Env → R (List D)} (hg : Gl X "range") (hm : X.mg "range" = none) (ha : DA X K E [e, e2, e3] ta a)
    (hs : starEach [e, e2, e3] X.env = (false, eval e X.env) :: starEach [e2, e3] X.env := by rfl) (hpl : (backTo pos (starEach [e2, e3] X.env)).any (·.1) = false := by rfl) :
    DI X K E tg (.Call (.Name "range" p) [e, e2, e3] [] pos) (iRng3 ta) (itR dRng3 a) := by
  refine ⟨pi_range3 hg hm ha.pa hs hpl, fun F0 B F σ H ρ Rr ok w => ?_⟩
  refine ha.ev F0 B F σ H ρ _ ok (W.imp (W.bind w) fun xs F1 H1 g1 w1 vs r1 => ?_)
  have w1 : W F1 H1 (fun items F' H' => ∀ J, ItOk K J F' items → Rr J H') (dRng3 xs) E := w1
  unfold dRng3 at w1
  split at w1
  · obtain ⟨⟨h0, h1, h2, h3⟩, w2⟩ := of_ite w1
    subst h0
    obtain ⟨v, vs, rfl, rfl, u, us, rfl, rfl, z, zs, rfl, rfl, e⟩ := r1
    have e : zs = [] := e
    subst e
    exact ⟨_, _, _, _, rfl, RgC.neg h1.1 h1.2 h2.1 h2.2, W.ok g1.fh w2 _ (itOk_rngD h3)⟩
  · exact w1.elim
/-! x.extend(e), e a list -/
def extS (i : Nat) (a : Env → R D) : Env → R Out := fun ρ => match ρ[i]? with
  | some (.L xs) => (a ρ).bind fun d => match d with
    | .lst zs => if xs.length + zs.length ≤ line then .ok (.nx (ρ.set i (.L (xs ++ zs)))) else .un
    | _ => .un
  | _ => .un
theorem ex_ext [Glo] {i : Nat} {te : TE} {a : Env → R D} (h : EvE K E te a) : ExS K E (tDrop (tBM K "list" rExtend (tVar i) (tCons te tNil))) (extS i a) := by
  intro F0 B F σ H ρ Dn ok w
  unfold extS at w
  split at w
  · rename_i xs e
    obtain ⟨p, vs, h1, h2, h3, h4, h5, h6⟩ := ok.sl i _ e
    refine ⟨_, h1, .inl ⟨rfl, vs, SqL.of h4⟩, ?_⟩
    refine h F0 B F σ H ρ _ ok (W.imp (WS.bind ok.gr w) fun d F1 H1 g1 w1 v r1 => ?_)
    cases d with
    | lst zs =>
      have w1 : WS K F0 B Dn (if xs.length + zs.length ≤ line then .ok (.nx (ρ.set i (.L (xs ++ zs)))) else .un) E := w1
      obtain ⟨q, us, rfl, a1, a2, a3⟩ := r1
      by_cases hl : xs.length + zs.length ≤ line
      · rw [if_pos hl] at w1
        have hl' : vs.length + us.length ≤ sizeLine := by rw [← line_eq, ← Reps.length h6, ← Reps.length a3]; exact hl
        refine ⟨p, q, vs, us, rfl, rfl, g1.hh _ _ h4 own_lst.1, g1.fh _ _ a1, hl', ?_⟩
        have ok1 := ok.grow g1
        obtain ⟨p', _, h1', h2', h3', _⟩ := ok1.sl i _ e
        rw [h1] at h1'
        cases h1'
        exact w1 F1 _ _ (ok1.write e rfl h1 ⟨p, vs ++ us, rfl, h2', h3', upd_same, by rw [List.length_append]; exact hl', Reps.append (Reps.mono g1.ff _ _ h6) a3⟩)
      · rw [if_neg hl] at w1
        exact w1.elim
    | _ => exact (show False from w1).elim
  · exact w.elim
theorem s_ext [Glo] {i : Nat} {o e : Expr} {te : TE} {a : Env → R D} {apos cpos pos : Pos} (ho : PE X o (tVar i)) (h : DE X K E e te a)
    (hbase : attributeBase o "extend" X.env (eval o X.env) = eval o X.env := by rfl)
    (hfew : ((backTo cpos (starEach [e] X.env)).all (fun x => !x.1) && (backToKw cpos (keywordEach [] X.env)).all (fun x => x.1.isSome)
      && decide (([e] : List Expr).length + ([] : List Keyword).length + (if ([] : List Keyword).isEmpty then 0 else 1) < 30)) = true := by rfl)
    (hline : (apos.endLine == cpos.line) = true := by rfl) (hs : starEach [e] X.env = (false, eval e X.env) :: starEach [] X.env := by rfl) (hplain : (backTo cpos (starEach [] X.env)).any (·.1) = false := by rfl)
    (hsw : swapsWith (.Call (.Attribute o "extend" apos) [e] [] cpos) none pos.line X.env = pure false := by rfl) (hK : X.K = K := by rfl) :
    DS X K E (.Expr (.Call (.Attribute o "extend" apos) [e] [] cpos) pos) (tDrop (tBM K "list" rExtend (tVar i) (tCons te tNil))) (extS i a) := by
  subst hK
  exact ⟨ps_expr (pe_bm PySem.F.plainAttrs_list PySem.F.slot_list_extend PySem.F.type_list_extend mt_extend ho (pa_cons h.pe pa_nil hs) hbase hfew hline hs hplain) hsw, ex_ext h.ev⟩
theorem d_neg [Glo] {n : Int} {j : Nat} {p1 p2 : Pos} : DE X K E (.UnaryOp .USub (.Constant (.int n) j p1) p2) (tUn (rU fun i => .int (-i)) (tC (.int n))) (cst (.int (-n))) :=
  ⟨pe_un un_neg pe_int, fun F0 B F σ H ρ Q ok w => ⟨n, rfl, W.ok ok.fh w _ rfl⟩⟩
theorem dRng3_ok {i j : Int} (h1 : -1000000 ≤ i) (h2 : i ≤ 1000000) (h3 : -1000000 ≤ j) (h4 : j ≤ 1000000) : dRng3 [.int i, .int j, .int (-1)] = .ok (rngD i (i - j).toNat) := by
  unfold dRng3
  simp only
  rw [if_pos]
  refine ⟨trivial, ?_⟩
  unfold small62 line
  omega
end
end DD

/-! DDA: tuples the other way round -/
namespace DD
open PySem PySem.Spec PyProof.Rows L2
section
variable {prog : Program} {w : World} {A : Around} {E : Value → Shared → Prop} {s : Shared}
theorem places_dn (n : Nat) : Builtin.Slice.slicePlaces ((n : Int) - 1) (-1) (-1) = n := by
  unfold Builtin.Slice.slicePlaces
  have h1 : ¬ ((-1 : Int) > 0) := by decide
  simp only [h1, if_false]
  by_cases h : (n : Int) - 1 > -1
  · simp only [h, if_true]
    have : -(-1 : Int) = 1 := by decide
    rw [this, Int.ediv_one]
    omega
  · simp only [h, if_false]
    omega
theorem adjust_dn (n : Nat) : Builtin.Slice.sliceAdjust none none (-1) (n : Int) = ((n : Int) - 1, -1) := by
  unfold Builtin.Slice.sliceAdjust
  simp
theorem applied_dn {sl : Addr} {n : Nat} {vs : Value} {Q : Int × Int × Nat → Shared → Prop} (hs : s.heap.IsSliceOf sl .none .none vs) (ps : IsPart vs (some (-1))) (h : Q ((n : Int) - 1, -1, n) s) :
    wpAny (model prog w) A (Builtin.Slice.sliceApplied (.ref sl) (pure (n : Int))) Q E s := by
  obtain ⟨os, hos, hcs, hds⟩ := id hs
  unfold Builtin.Slice.sliceApplied Builtin.Slice.sliceFields
  refine wpAny_bind (wpAny_bind (wpAny_field hos hds (x := .none) rfl (wpAny_bind (wpAny_field hos hds (x := .none) rfl (wpAny_bind (wpAny_field hos hds (x := vs) rfl (wpAny_pure ?_)))))))
  refine wpAny_bind (HT.slicePart_ ps ?_)
  show wpAny _ _ (if ((-1 : Int) == 0) = true then _ else _) _ _ s
  rw [if_neg (by decide)]
  refine wpAny_bind (HT.slicePart_ .none (wpAny_bind (HT.slicePart_ .none (wpAny_bind (wpAny_pure ?_)))))
  show wpAny _ _ (match Builtin.Slice.sliceAdjust none none (-1) (n : Int) with | (lo, hi) => pure (lo, (-1 : Int), Builtin.Slice.slicePlaces lo hi (-1))) _ _ s
  rw [adjust_dn n]
  show wpAny _ _ (pure ((n : Int) - 1, (-1 : Int), Builtin.Slice.slicePlaces ((n : Int) - 1) (-1) (-1))) _ _ s
  rw [places_dn]
  exact wpAny_pure h
theorem pick_dn (xs : Array Value) : ((List.range xs.size).filterMap fun (m : Nat) => xs[((xs.size : Int) - 1 + (m : Int) * (-1)).toNat]?).toArray = xs.toList.reverse.toArray := by
  congr 1
  have e : ∀ m ∈ List.range xs.size, (fun (m : Nat) => xs[((xs.size : Int) - 1 + (m : Int) * (-1)).toNat]?) m = some (xs.toList.reverse.getD m .none) := fun m hm => by
    have hm : m < xs.size := List.mem_range.mp hm
    have e1 : ((xs.size : Int) - 1 + (m : Int) * (-1)).toNat = xs.size - 1 - m := by omega
    have h2 : xs.size - 1 - m < xs.size := by omega
    show xs[((xs.size : Int) - 1 + (m : Int) * (-1)).toNat]? = _
    rw [e1, Array.getElem?_eq_getElem h2, List.getD_eq_getElem?_getD, List.getElem?_reverse (by simpa using hm)]
    simp [h2]
  have : ∀ (l : List Nat) (f g : Nat → Option Value), (∀ m ∈ l, f m = g m) → l.filterMap f = l.filterMap g := fun l f g h => by
    induction l with
    | nil => rfl
    | cons a l ih =>
      rw [List.filterMap_cons, List.filterMap_cons, h a List.mem_cons_self, ih fun m hm => h m (List.mem_cons_of_mem _ hm)]
  rw [this _ _ _ e]
  have : ∀ l : List Nat, (l.filterMap fun m => some (xs.toList.reverse.getD m Value.none)) = l.map fun m => xs.toList.reverse.getD m Value.none := fun l => by
    induction l with
    | nil => rfl
    | cons a l ih => rw [List.filterMap_cons, List.map_cons, ih]
  rw [this]
  apply List.ext_getElem?
  intro i
  by_cases hi : i < xs.size
  · rw [List.getElem?_map, List.getElem?_range hi]
    have : i < xs.toList.reverse.length := by simpa using hi
    rw [List.getElem?_eq_getElem this]
    show some (xs.toList.reverse.getD i .none) = _
    rw [List.getD_eq_getElem?_getD, List.getElem?_eq_getElem this]
    rfl
  · rw [List.getElem?_eq_none (by simp; omega), List.getElem?_eq_none (by simp; omega)]
theorem getItem_tuple_dn {t sl : Addr} {items : Array Value} {vs : Value} {Q : Value → Shared → Prop} (ht : IsTup s.heap t items) (hs : s.heap.IsSliceOf sl .none .none vs) (ps : IsPart vs (some (-1)))
    (h : Q (.ref s.heap.objs.size) { s with heap := s.heap.push { cls := .type "tuple", data := .seq items.toList.reverse.toArray } })
    (hsz : items.size ≤ sizeLine) : wpAny (model prog w) A (getItem (.ref t) (.ref sl)) Q E s := by
  have htake : sizeOk (.seq items.toList.reverse.toArray) := by
    show items.toList.reverse.toArray.size ≤ sizeLine
    rw [List.size_toArray, List.length_reverse, Array.length_toList]
    omega
  obtain ⟨os, hos, hcs, hds⟩ := id hs
  have hTs : s.TypeIs (.ref sl) "slice" := ⟨os, hos, hcs⟩
  unfold getItem
  try with_reducible refine wpAny_holding ?_
  first | refine wpAny_bind (wpAny_pure ?_) | skip
  refine wpAny_bind (wpAny_sequenceKey ht.typeIs (by decide) ?_)
  refine wpAny_bind (wpAny_callSpecial?_slot (name := Str.ofString "__getitem__") ht.typeIs PyProof.Rows.slot_tuple_getitem
    (wpAny_call_entry PyProof.Rows.slot_tuple_getitem ht.typeIs entry_tuple_getitem ?_ (args_tuple_getitem _ _)))
  show wpAny _ _ (Builtin.Tuple.tupleItemsOf (.ref t) >>= _) _ _ s
  refine wpAny_bind (tupleItemsOf_ ht ?_)
  refine wpAny_bind (wpAny_typeOf hTs ?_)
  rw [if_pos (by decide)]
  refine wpAny_bind (applied_dn hs ps ?_)
  have hno : ¬ ((((items.size : Int) - 1 == 0) && (-1 : Int) == 1 && items.size == items.size) = true) := by
    intro q
    rw [Bool.and_eq_true, Bool.and_eq_true] at q
    exact absurd q.1.2 (by decide)
  show wpAny _ _ (if (((items.size : Int) - 1 == 0) && (-1 : Int) == 1 && items.size == items.size) = true then _ else _) _ _ s
  rw [if_neg hno, pick_dn]
  first
    | exact wpAny_bind (m := Builtin.Tuple.tupleExact _) (wpAny_newObj_type (wpAny_pure ⟨_, rfl, wpAny_pure h⟩) htake)
    | exact wpAny_bind (m := Builtin.Tuple.tupleExact _) (wpAny_newObj_type (wpAny_bind (wpAny_pure (wpAny_pure ⟨_, rfl, wpAny_pure h⟩))) htake)
    | exact wpAny_bind (wpAny_bind (m := Builtin.Tuple.tupleExact _) (wpAny_newObj_type (wpAny_pure (wpAny_pure ⟨_, rfl, wpAny_pure h⟩)) htake))
    | exact wpAny_bind (wpAny_bind (m := Builtin.Tuple.tupleExact _) (wpAny_newObj_type (wpAny_pure ⟨_, rfl, wpAny_pure h⟩) htake))
end
section
variable {X : Cx} {K : PySem.W.Frag} {E : XK}
def tRevT (K : PySem.W.Frag) (te : TE) : TE := fun σ H Q => te σ H fun x H1 => ∃ a xs, x = .ref a ∧ SqT K H1 a xs ∧ ∀ p, H1 p = none → Q (.ref p) (upd H1 p (.tup xs.reverse))
theorem pe_revT {e : Expr} {te : TE} {k : Nat} {p1 p2 p3 pos : Pos} (he : PE X e te) : PE X (.Subscript e (.Slice none none (some (.UnaryOp .USub (.Constant (.int 1) k p1) p2)) p3) pos) (tRevT X.K te) := by
  refine ⟨fun pins s σ H Q I h => ?_⟩
  refine Subscript_ (thn (he.run pins s σ H _ I h) fun v s1 ⟨x, H1, I1, r1, q1⟩ => ?_)
  obtain ⟨a, xs, ex, hx, q⟩ := q1
  subst ex
  cases r1
  have hst : PO X (some (.UnaryOp .USub (.Constant (.int 1) k p1) p2)) (tPart (tUn (rU fun i => .int (-i)) (tC (.int 1)))) := po_some (pe_un un_neg pe_int)
  refine wpAny_Slice (thn (po_none.run pins s1 σ H1 (fun o H2 => o = none ∧ H2 = H1) I1 ⟨rfl, rfl⟩) fun vl s2 ⟨l, H2, I2, pl, el, e2⟩ => ?_)
  subst el e2
  refine thn (po_none.run pins s2 σ H2 (fun o H3 => o = none ∧ H3 = H2) I2 ⟨rfl, rfl⟩) fun vu s3 ⟨u, H3, I3, pu, eu, e3⟩ => ?_
  subst eu e3
  refine thn (hst.run pins s3 σ H3 (fun o H4 => o = some (-1) ∧ H4 = H3) I3 ⟨1, rfl, -1, rfl, rfl, rfl⟩) fun vs s4 ⟨o, H4, I4, ps, eo, e4⟩ => ?_
  subst eo e4
  have I5 : Inv X pins σ H4 { s4 with heap := s4.heap.push { cls := .type "slice", data := .fields #[vl, vu, vs] } } := I4.kept (t' := s4.toks) fun b ob q => Heap.get?_push_of_some _ q
  obtain ⟨its, r, ht, hz⟩ := I5.tuple hx
  have hlen := r.length
  cases pl
  cases pu
  show wpAny (model X.prog X.w) X.A (subscriptTail e (.Slice none none (some (.UnaryOp .USub (.Constant (.int 1) k p1) p2)) p3) (.ref a) (.ref s4.heap.objs.size)) (EP X pins σ Q) X.xe { s4 with heap := s4.heap.push { cls := .type "slice", data := .fields #[.none, .none, vs] } }
  refine tail_any (ops := [.ref a, .ref s4.heap.objs.size]) ht.typeIs (PyProof.Rows.slot_tuple_getitem.lookup) ?_ (by with_unfolding_all rfl)
  refine getItem_tuple_dn ht (Heap.IsSliceOf.new _ .none .none vs) ps ?_ (by rw [List.size_toArray]; omega)
  refine ⟨.ref _, _, I5.laid (t' := s4.toks) (o := .tup xs.reverse) (fun b ob q => Heap.get?_push_of_some _ q) (Nat.le_refl _) ?_, rfl, q _ (I5.hok.fresh (Nat.le_refl _))⟩
  exact ⟨by rw [List.length_reverse]; exact hz, _, r.reverse, IsTup.new _ _⟩
def dRevT : D → R D
  | .tup xs => .ok (.tup xs.reverse)
  | _ => .un
def revT (a : Env → R D) : Env → R D := fun ρ => (a ρ).bind dRevT
theorem d_revT [Glo] {e : Expr} {te : TE} {a : Env → R D} {k : Nat} {p1 p2 p3 pos : Pos} (h : DE X K E e te a) (hK : X.K = K := by rfl) : DE X K E (.Subscript e (.Slice none none (some (.UnaryOp .USub (.Constant (.int 1) k p1) p2)) p3) pos) (tRevT K te) (revT a) := by
  subst hK
  refine ⟨pe_revT h.pe, ?_⟩
  intro F0 B F σ H ρ Q ok w
  refine h.ev F0 B F σ H ρ _ ok (W.imp (W.bind w) fun d F1 H1 g1 w1 v r1 => ?_)
  cases d with
  | tup xs =>
    obtain ⟨x, vs, rfl, h1, h2, h3⟩ := r1
    refine ⟨x, vs, rfl, Same.sqT g1.fh h1, fun p hp => ?_⟩
    have w1 : W F1 H1 (PV X.K Q) (.ok (.tup xs.reverse)) E := w1
    exact w1 _ _ (Gr.new g1.fh hp) _ (rep_tup_new (g1.fh.free hp) (Reps.reverse h3) (by rw [List.length_reverse]; exact h2))
  | non => exact w1.elim
  | bl _ => exact w1.elim
  | int _ => exact w1.elim
  | str _ => exact w1.elim
  | lst _ => exact w1.elim
  | dct _ => exact w1.elim
  | scr _ => exact w1.elim
end
end DD

/-! DDB: enumerate of a tuple -/
namespace DD
open PySem PySem.Spec PyProof.Rows L2
theorem meets_enumerate_newT (l : Addr) (items : Array Value) (n : Nat) (dct : Option Addr) (sl : Array (Option Value)) :
    Meets (Builtin.«enumerate.__new__» ⟨[.type "enumerate", .ref l], []⟩) (fun _ R s => s.heap.get? l = some { cls := .type "tuple", dict := dct, data := .seq items n, slots := sl } ∧
      R (.ok (.ret (.ref (s.heap.push { cls := .type "tuple_iterator", data := .fields #[.ref l, .int 0 0] }).objs.size)))
        { s with heap := (s.heap.push { cls := .type "tuple_iterator", data := .fields #[.ref l, .int 0 0] }).push { cls := .type "enumerate", data := .fields #[.none, .bool false, .ref s.heap.objs.size, rawInt 0, .none, .none] } }) :=
  .of_wp fun prog w A R s h => by
    obtain ⟨hp, g, d, tk, os⟩ := s; obtain ⟨hl, h⟩ := h
    have hsub := sub_enumerate
    have hL : Heap.IsTuple (Shared.heap ⟨hp, g, d, tk, os⟩) l items := ⟨_, hl, rfl, n, rfl⟩
    wp_walk using PySem.AutoSeq1.wpAny_loadPart' hl
    refine wpAny_stack_any fun st => wpAny_pure ?_
    split
    · rename_i c _ _ _ _ _
      cases (c == Value.type "enumerate")
      · wp_walk using PySem.AutoSeq1.wpAny_loadPart' hl, wpAny_pyIter_tuple hL
        exact ⟨_, rfl, h⟩
      · wp_walk using PySem.AutoSeq1.wpAny_loadPart' hl, wpAny_pyIter_tuple hL
        exact ⟨_, rfl, h⟩
    · wp_walk using PySem.AutoSeq1.wpAny_loadPart' hl, wpAny_pyIter_tuple hL
      exact ⟨_, rfl, h⟩
section
variable {prog : Program} {w : World} {A : Around} {E : Value → Shared → Prop} {s : Shared}
theorem call_enumerate_tuple {l : Addr} {items : Array Value} {Q : Value → Shared → Prop} (hL : s.heap.IsTuple l items)
    (h : ∀ h', IsEnum h' (s.heap.objs.size + 1) s.heap.objs.size 0 .none → h'.IsTupleIter s.heap.objs.size l 0 → h'.objs.size = s.heap.objs.size + 2 →
      (∀ b o, s.heap.get? b = some o → h'.get? b = some o) → Q (.ref (s.heap.objs.size + 1)) { s with heap := h' }) :
    wpAny (model prog w) A (call (.type "enumerate") [.ref l]) Q E s := by
  obtain ⟨⟨c, dct, dt, sl⟩, hl, hc, n, hd⟩ := hL
  replace hc : c = .type "tuple" := hc
  replace hd : dt = .seq items n := hd
  subst hc hd
  refine callType_new F.called_enumerate (by decide) (F.typeCall_enumerate_1 _) (F.newCall_enumerate_1 _) (fun obj => F.args_object_init_2 obj _) F.entry_enumerate_new
    (meets_enumerate_newT l items n dct sl) ⟨hl, ?_⟩
  have hz : (s.heap.push { cls := .type "tuple_iterator", data := .fields #[.ref l, .int 0 0] }).objs.size = s.heap.objs.size + 1 := Heap.size_push ..
  show _ ∧ _
  rw [hz]
  have he : IsEnum ((s.heap.push { cls := .type "tuple_iterator", data := .fields #[.ref l, .int 0 0] }).push
      { cls := .type "enumerate", data := .fields #[.none, .bool false, .ref s.heap.objs.size, rawInt 0, .none, .none] }) (s.heap.objs.size + 1) s.heap.objs.size 0 .none := by
    have := Heap.get?_push_size (s.heap.push { cls := .type "tuple_iterator", data := .fields #[.ref l, .int 0 0] })
      (o := { cls := .type "enumerate", data := .fields #[.none, .bool false, .ref s.heap.objs.size, rawInt 0, .none, .none] }) rfl
    rw [hz] at this; exact this
  refine ⟨⟨_, he, rfl⟩, h _ he ⟨_, Heap.get?_push_of_some _ (Heap.get?_push_size _ rfl), rfl, rfl⟩ (by rw [Heap.size_push, hz]) fun b o x => Heap.get?_push_of_some _ (Heap.get?_push_of_some _ x)⟩
end
theorem enum_end_tuple {prog : Program} {w : World} {A : Around} {E : Value → Shared → Prop} {s : Shared} {e it l : Addr} {i : Nat} {items : Array Value} {old : Value} {Q : Option Value → Shared → Prop} (hh : A.handled = none)
    (he : IsEnum s.heap e it i old) (hit : s.heap.IsTupleIter it l i) (hl : s.heap.IsTuple l items) (hx : items[i]? = none)
    (hQ : ∀ h', Heap.ExtBut it s.heap h' → Q none { s with heap := h' }) : wpAny (model prog w) A (pyNext (.ref e)) Q E s := by
  have hT : s.TypeIs (.ref e) "enumerate" := ⟨_, he, rfl⟩
  unfold pyNext
  refine wpAny_bind (wpAny_attempt (wpAny_callSpecial?_slot (name := Str.ofString "__next__") hT F.slot_enumerate_next
    (wpAny_call_entry F.slot_enumerate_next hT F.entry_enumerate_next ?_ (F.args_enumerate_next_1 _))))
  show wpAny _ _ (field (.ref e) 2 >>= _) _ _ _
  refine wpAny_bind (wpAny_field he rfl (x := .ref it) rfl ?_)
  refine wpAny_bind (wpAny_nextOf_tuple_end hh hit hl hx fun h' x he' hx' => ?_)
  obtain ⟨o, ho, hc⟩ := hx'
  refine wpAny_bind (wpAny_isInstance (T := "StopIteration") (b := true) ⟨o, ho, hc⟩ isSubtype_stop ?_)
  exact wpAny_pure (hQ _ he')
/-- the tuple at a as it stands at each turn, each item in a new pair -/
def IteT (K : PySem.W.Frag) (a : Addr) : It :=
  ⟨fun i H => ∃ (xs : List V) (x : V), SqT K H a xs ∧ xs[i]? = some x, fun i H v H' => ∃ T x, v = .ref T ∧ H T = none ∧ H' = upd H T (.tup [.int (i : Nat), x]) ∧ ∀ xs, SqT K H a xs → xs[i]? = some x, fun i H => ∃ xs : List V, SqT K H a xs ∧ xs.length ≤ i⟩
theorem turn_enumT {P : Program} {w : World} {K : PySem.W.Frag} {elts : List Expr} {kk : Nat} {tpos : Pos} (a e it : Addr) (ne1 : a ≠ it) (ne2 : e ≠ a) :
    Turn P w K (.Tuple elts kk tpos) (IteT K a) [e, it] e (fun i h => (∃ old, IsEnum h e it ((i : Nat) : Int) old) ∧ h.IsTupleIter it a i ∧ e ≠ it) where
  mem := by simp
  obj := fun i h st b hb => by
    obtain ⟨⟨old, he⟩, ⟨o, ho, hc, hd⟩, _⟩ := st
    have e' : b = e ∨ b = it := by simpa using hb
    rcases e' with z | z
    · rw [z]; exact ⟨_, he, fun v q => nomatch q⟩
    · rw [z]; exact ⟨o, ho, fun v q => by rw [hd] at q; cases q⟩
  keep := fun i h h' st k => let ⟨⟨old, he⟩, hi, hne⟩ := st; ⟨⟨old, k e (by simp) _ he⟩, hi.at fun o q => k it (by simp) o q, hne⟩
  item := by
    intro X hP hw hK hc i pins s σ H E I hf st hg
    subst hP hw hK
    obtain ⟨⟨old, he⟩, hit, hne⟩ := st
    obtain ⟨xs, x, hq, hx⟩ := hg
    obtain ⟨its, rv, p, hz⟩ := I.tuple hq
    obtain ⟨u, hu, ru⟩ := rv.get hx
    have hel : e < s.heap.objs.size := Heap.lt_size he
    have hil : it < s.heap.objs.size := by obtain ⟨_, q, _⟩ := hit; exact Heap.lt_size q
    have hlt : i < its.toArray.size := by
      have := (List.getElem?_eq_some_iff.mp hu).1
      simpa using this
    refine wpAny_pyNext_enum_itemD (Draws.tuple (A := X.A.in1) (I.ok.hd hc) it a ne1 its.toArray) he ⟨hit, p⟩ hlt hne (by simp; exact ⟨hne, ne2⟩) fun x' h' tk hPx ho hst' hT hsz hk => ?_
    have ex : x' = u := by
      have z : its.toArray[i]? = some x' := hPx
      rw [List.getElem?_toArray, hu] at z
      cases z
      rfl
    subst ex
    refine ⟨_, rfl, wpAny_letOwnedTupleGo_enum (s := { s with heap := h', toks := tk + 1 }) ho fun h'' he' sb => ?_⟩
    have hT2 : h''.get? s.heap.objs.size = some { cls := .type "tuple", data := .seq #[.int i tk, x'] } := (sb.2 _ (Nat.ne_of_gt hel)).trans hT
    have new : ObjOk X.prog X.w (upd H s.heap.objs.size (.tup [.int (i : Nat), x])) h'' s.heap.objs.size (.tup [.int (i : Nat), x]) :=
      ⟨by show 2 ≤ sizeLine; decide, [.int i tk, x'], .cons ⟨_, rfl⟩ (.cons ru .nil), ⟨_, hT2, rfl, _, rfl⟩⟩
    have I1 : Inv X pins σ (upd H s.heap.objs.size (.tup [.int (i : Nat), x])) { s with heap := h'', toks := tk + 1 } :=
      I.turnedNew (ch := [e, it]) (fun b ob hb q => (sb.2 b (fun z => hb (by simp [z]))).trans (hk b ob (fun z => hb (by simp [z])) (fun z => hb (by simp [z])) q)) hf (Nat.le_refl _) new
    refine ⟨.ref s.heap.objs.size, _, I1, rfl, ⟨_, x, rfl, I.hok.fresh (Nat.le_refl _), rfl, fun ys hy => by rw [I.tuple_inj hy hq]; exact hx⟩, ⟨⟨x', ?_⟩, hst'.1.at fun o q => (sb.2 it (Ne.symm hne)).trans q, hne⟩, fun b hb => ?_⟩
    · have e1 : ((i + 1 : Nat) : Int) = (i : Int) + 1 := by omega
      rw [e1]; exact he'
    · have hb' : b < s.heap.objs.size := by
        have e' : b = e ∨ b = it := by simpa using hb
        rcases e' with z | z
        · rw [z]; exact hel
        · rw [z]; exact hil
      rw [upd_ne (Nat.ne_of_lt hb')]
      exact (hf b hb).1
  done := by
    intro X hP hw hK hc i pins s σ H E I hf st hg
    subst hP hw hK
    obtain ⟨⟨old, he⟩, hit, hne⟩ := st
    obtain ⟨xs, hq, hx⟩ := hg
    obtain ⟨its, rv, p, hz⟩ := I.tuple hq
    obtain ⟨f0, f1, f2, f3, f4, f5⟩ := hf it (by simp)
    have hl := rv.length
    exact enum_end_tuple (I.ok.hd hc) he hit p (by simp; omega) fun h' eb => ⟨rfl, I.turned (t' := s.toks) (fun b o hb q => eb b o hb q) f0 f1 f3 f4 f5⟩
  self := fun A i s Q E st h => let ⟨⟨_, he⟩, _⟩ := st; wpAny_pyIter_enum he h
def iEnumA (K : PySem.W.Frag) (ta : TA) : TI := fun σ H R => ta σ H fun vs H1 => ∃ a xs, vs = [.ref a] ∧ ((SqL K H1 a xs ∧ R (Ite K a) H1) ∨ (SqT K H1 a xs ∧ R (IteT K a) H1))
theorem pi_enumA {X : Cx} {e : Expr} {ta : TA} {p pos tpos : Pos} {elts : List Expr} {kk : Nat} (hg : Gl X "enumerate") (hm : X.mg "enumerate" = none) (ha : PA X [e] ta) (hs : starEach [e] X.env = [(false, eval e X.env)] := by rfl) :
    PI X (.Tuple elts kk tpos) (.Call (.Name "enumerate" p) [e] [] pos) (iEnumA X.K ta) := by
  refine ⟨fun pins s σ H R I h => ?_⟩
  refine Call_ (ld_blt I hg hm boot_enumerate (PyProof.Rows.callWith_type1 (thn (ha.run pos pins s σ H _ I h) fun us s1 ⟨vs, H1, I1, r1, q1⟩ => ?_) hs rfl))
  obtain ⟨a, xs, ex, hq⟩ := q1
  subst ex
  cases r1 with
  | cons r rr =>
    cases rr
    cases r
    rcases hq with ⟨hq, q⟩ | ⟨hq, q⟩
    · obtain ⟨its, rv, p', hz⟩ := I1.list hq
      refine call_enumerate_list p'.isList fun h' he hit hsz hk => wpAny_pyIter_enum he ?_
      have I2 : Inv X pins σ H1 { s1 with heap := h' } := I1.kept (t' := s1.toks) hk
      refine ⟨s1.heap.objs.size + 1, [s1.heap.objs.size + 1, s1.heap.objs.size], _, _, H1, rfl, I2, turn_enum a (s1.heap.objs.size + 1) s1.heap.objs.size, ⟨⟨.none, he⟩, hit, Nat.succ_ne_self _⟩, fun b hb => ?_, q⟩
      have e' : b = s1.heap.objs.size + 1 ∨ b = s1.heap.objs.size := by simpa using hb
      have hle : s1.heap.objs.size ≤ b := by
        rcases e' with z | z
        · rw [z]; exact Nat.le_add_right _ _
        · rw [z]; exact Nat.le_refl _
      exact I1.fpOk hle (I1.hok.fresh hle)
    · obtain ⟨its, rv, p', hz⟩ := I1.tuple hq
      have hlt : a < s1.heap.objs.size := IsTup.lt p'
      refine call_enumerate_tuple p' fun h' he hit hsz hk => wpAny_pyIter_enum he ?_
      have I2 : Inv X pins σ H1 { s1 with heap := h' } := I1.kept (t' := s1.toks) hk
      refine ⟨s1.heap.objs.size + 1, [s1.heap.objs.size + 1, s1.heap.objs.size], _, _, H1, rfl, I2, turn_enumT a (s1.heap.objs.size + 1) s1.heap.objs.size (Nat.ne_of_lt hlt) (Nat.ne_of_gt (Nat.lt_succ_of_lt hlt)), ⟨⟨.none, he⟩, hit, Nat.succ_ne_self _⟩, fun b hb => ?_, q⟩
      have e' : b = s1.heap.objs.size + 1 ∨ b = s1.heap.objs.size := by simpa using hb
      have hle : s1.heap.objs.size ≤ b := by
        rcases e' with z | z
        · rw [z]; exact Nat.le_add_right _ _
        · rw [z]; exact Nat.le_refl _
      exact I1.fpOk hle (I1.hok.fresh hle)
section
variable {X : Cx} {K : PySem.W.Frag} {E : XK}
theorem itOk_enumT [Glo] {F : Hp} {a : Addr} {vs : List V} {xs : List D} (h : SqT K F a vs) (hl : vs.length ≤ sizeLine) (r : Reps K F xs vs) : ItOk K (IteT K a) F (numb 0 xs) := by
  refine ⟨by rw [numb_len, Reps.length r]; exact hl, fun F1 H s1 s2 => ⟨fun i d e => ?_, ?_⟩⟩
  · obtain ⟨x, e1, rfl⟩ := numb_get e
    obtain ⟨v, hv, rv⟩ := Reps.get r e1
    refine ⟨⟨vs, v, Same.sqT (s1.trans s2) h, hv⟩, fun y H' hy => ?_⟩
    obtain ⟨T, x', rfl, hT, rfl, hx⟩ := hy
    have := hx vs (Same.sqT (s1.trans s2) h)
    rw [hv] at this
    cases this
    rw [Nat.zero_add]
    exact ⟨_, Gr.new s2 hT, rep_pair (s2.free hT) rfl (Rep.mono s1 _ _ rv)⟩
  · refine ⟨vs, Same.sqT (s1.trans s2) h, ?_⟩
    rw [numb_len, Reps.length r]
    exact Nat.le_refl _
def dEnumA : List D → R (List D)
  | [.lst xs] => .ok (numb 0 xs)
  | [.tup xs] => .ok (numb 0 xs)
  | _ => .un
theorem i_enumA [Glo] {elts : List Expr} {kk : Nat} {tpos : Pos} {e : Expr} {p pos : Pos} {ta : TA} {a : Env → R (List D)} (hg : Gl X "enumerate") (hm : X.mg "enumerate" = none) (ha : DA X K E [e] ta a) (hs : starEach [e] X.env = [(false, eval e X.env)] := by rfl) (hK : X.K = K := by rfl) :
    DI X K E (.Tuple elts kk tpos) (.Call (.Name "enumerate" p) [e] [] pos) (iEnumA K ta) (itR dEnumA a) := by
  subst hK
  refine ⟨pi_enumA hg hm ha.pa hs, fun F0 B F σ H ρ Rr ok w => ?_⟩
  refine ha.ev F0 B F σ H ρ _ ok (W.imp (W.bind w) fun xs F1 H1 g1 w1 vs r1 => ?_)
  have w1 : W F1 H1 (fun items F' H' => ∀ J, ItOk X.K J F' items → Rr J H') (dEnumA xs) E := w1
  unfold dEnumA at w1
  split at w1
  · obtain ⟨v, rfl, p1, vs, rfl, a1, a2, a3⟩ := reps1 r1
    exact ⟨p1, vs, rfl, .inl ⟨SqL.of (g1.fh _ _ a1), W.ok g1.fh w1 _ (itOk_enum (SqL.of a1) a2 a3)⟩⟩
  · obtain ⟨v, rfl, p1, vs, rfl, a1, a2, a3⟩ := reps1 r1
    exact ⟨p1, vs, rfl, .inr ⟨Same.sqT g1.fh a1, W.ok g1.fh w1 _ (itOk_enumT a1 a2 a3)⟩⟩
  · exact w1.elim
end
end DD

/-! DDC: while; raise of an own error -/
namespace DD
open PySem PySem.Spec PyProof.Rows L2
/-! ### while -/
def whF (c : Env → R Bool) (b : Env → R Out) : Nat → Env → R Out
  | 0, _ => .un
  | n + 1, ρ => (c ρ).bind fun k => if k = true then (b ρ).bind fun o => match o with
    | .nx ρ' => whF c b n ρ'
    | .ct ρ' => whF c b n ρ'
    | .bk ρ' => .ok (.nx ρ')
    | .rt d => .ok (.rt d) else .ok (.nx ρ)
section
variable {X : Cx} {E : XK} {K : PySem.W.Frag}
theorem ex_while [Glo] {tc : TT} {tb : TS} {c : Env → R Bool} {b : Env → R Out} (n : Nat) (hc : EvT K E tc c) (hb : ExS K E tb b) : ExS K E (tWhile tc tb) (whF c b n) := by
  intro F0 B F σ H ρ Dn ok w
  refine ⟨fun m σ' H' => ∃ F' ρ', Ok K F0 B F' σ' H' ρ' ∧ WS K F0 B Dn (whF c b m ρ') E, ⟨n, F, ρ, ok, w⟩, ?_⟩
  rintro m σ' H' ⟨F', ρ', ok', w'⟩
  cases m with
  | zero => exact w'.elim
  | succ m =>
    refine hc F0 B F' σ' H' ρ' _ ok' (W.imp (WS.bind ok'.gr w') fun k F1 H1 g1 w1 => ?_)
    cases k with
    | false => exact w1 F1 σ' H1 (ok'.grow g1)
    | true =>
      show if true = true then _ else _
      rw [if_pos rfl]
      refine ⟨fun σ2 H2 => ∃ F2 ρ2, Ok K F0 B F2 σ2 H2 ρ2 ∧ WS K F0 B Dn (whF c b m ρ2) E, fun σ2 H2 h2 => ⟨m, Nat.lt_succ_self _, h2⟩, ?_⟩
      refine hb F0 B F1 σ' H1 ρ' _ (ok'.grow g1) ?_
      have w1 : WS K F0 B Dn ((b ρ').bind fun o => match o with
        | .nx ρ' => whF c b m ρ'
        | .ct ρ' => whF c b m ρ'
        | .bk ρ' => .ok (.nx ρ')
        | .rt d => .ok (.rt d)) E := w1
      cases hbd : b ρ' with
      | un => rw [hbd] at w1; exact w1
      | er C => rw [hbd] at w1; exact w1
      | ok o =>
        rw [hbd] at w1
        cases o with
        | nx ρ2 => exact fun Fa σa Ha oa => ⟨Fa, ρ2, oa, w1⟩
        | ct ρ2 => exact fun Fa σa Ha oa => ⟨Fa, ρ2, oa, w1⟩
        | bk ρ2 => exact fun Fa σa Ha oa => w1 Fa σa Ha oa
        | rt d => exact fun Fa Ha v ga ra => w1 Fa Ha v ga ra
theorem s_while [Glo] {ce : Expr} {body : List Stmt} {pos : Pos} {tc : TT} {tb : TS} {c : Env → R Bool} {b : Env → R Out} (n : Nat) (hp : PassesOwn (model X.prog X.w) X.A X.env X.xe) (hc : DT X K E ce tc c) (hb : DSs X K E body tb b) : DS X K E (.While ce body [] pos) (tWhile tc tb) (whF c b n) :=
  ⟨ps_while hp hc.pt hb.ps, ex_while n hc.ev hb.ev⟩
end
@[simp] theorem whF_succ (c : Env → R Bool) (b : Env → R Out) (n : Nat) (ρ : Env) : whF c b (n + 1) ρ = (c ρ).bind fun k => if k = true then (b ρ).bind fun o => match o with
    | .nx ρ' => whF c b n ρ'
    | .ct ρ' => whF c b n ρ'
    | .bk ρ' => .ok (.nx ρ')
    | .rt d => .ok (.rt d) else .ok (.nx ρ) := id rfl
/-! ### raise -/
structure ErrIn (K : PySem.W.Frag) (mg : Str → Option Value) (x : Str) (C : Addr) : Prop where
  g : mg x = some (.ref C)
  x : PySem.W.excIn K C [.type "ValueError", .type "Exception", .type "BaseException", .type "object"] "ValueError.__new__" = true
  k : PySem.W.keepIn K (.ref C) = true
  b : PySem.W.subIn K (.ref C) (.type "BaseException") = some true
  t : PySem.W.typeIn K (.ref C) = some (.type "type")
def erS (n : Nat) : Env → R Out := fun _ => .er n
section
variable {X : Cx} {E : XK} {K : PySem.W.Frag}
theorem s_raise [Glo] {x m : Str} {j n : Nat} {p p2 pos pos' : Pos} (e : ErrIn K X.mg x (Glo.adr n)) (hg : Gl X x) (hc : X.calm = true) (tk : Takes X (fun cls d _ H => E cls d H)) (hK : X.K = K := by rfl) (hdb : (x == ("__debug__" : Str)) = false := by decide) :
    DS X K E (.Raise (some (.Call (.Name x p) [.Constant (.str m) j p2] [] pos)) none pos') (fun _ _ H => E (.ref (Glo.adr n)) none H) (erS n) := by
  subst hK
  refine ⟨ps_raise hc tk (pmk_own PySem.F.excBase_ValueError e.x e.g e.k (raises_own e.b e.t) hg hdb), ?_⟩
  intro F0 B F σ H ρ Dn ok w
  exact w F H ok.gr
@[simp] theorem erS_eq (n : Nat) (ρ : Env) : erS n ρ = .er n := id rfl
end
end DD

/-! DDE: the end of a law whose defs raise, or make lambdas -/
namespace DD
open PySem PySem.Spec PyProof.Rows L2
theorem walk_my {l : PySem.W.OpenLaw} {n k : Nat} {q : Program} {loose : List Str} {XP : (Str → Option Value) → Heap → Prop} {YP : World → Heap → Prop} {d : DefRec} {K : Params → PySem.W.Frag} {CX : World → CXT} {x : Str}
    (hn : l.most = some n) (hn2 : n ≤ sizeLine) (hdf : d.params.defaults = []) (hr : Room k callerA) (hY : ∀ (w : World) (h : Heap), YP w h → (K w.params).In h)
    (F : ∀ (w : World) (mg : Str → Option Value) (fa : Addr) (h : Heap), (K w.params).In h → h.Ns mainGlobals mg → mg d.name = some (.ref fa) →
      (∀ (y : Str) (f : Addr), ((recsOf q).any fun e => e.name == y) = true → mg y = some (.ref f) → LamX.OwnTab (K w.params) f h) → LamX.LawAtS l w (K w.params) (CX w) k n x mg fa h)
    (hCX : ∀ (w : World) (H : Hp) (s : Shared) (e : Value) (s' : Shared), CX w [] H s (fun _ _ _ => False) e s' → False) :
    PySem.W.WalkO q loose XP YP l.row.toRowW d [] (fun f vs => PySem.call f vs) := by
  refine Att.attach_callB hn hdf fun w s₀ s₁ mg mb fa o pm cd doc a vs ns G Y ho hd hcd hmg hobj hints hlen hbits hg => ?_
  have KX := hY w _ Y
  have own : ∀ (y : Str) (f : Addr), ((recsOf q).any fun e => e.name == y) = true → mg y = some (.ref f) → LamX.OwnTab (K w.params) f s₁.heap := fun y f hrec hy c P o1 fd1 e dd vs1 sl k1 k2 k3 k4 k5 => by
    obtain ⟨dL, hm, hn1⟩ := List.any_eq_true.mp hrec
    have hn2 : dL.name = y := beq_iff_eq.mp hn1
    obtain ⟨a', o', fd', c', P', h1, h2, h3, h4, h5, h6⟩ := G.T.tab dL hm
    rw [hn2, hy] at h1
    cases h1
    have g1 := KX _ _ k1
    rw [g1] at h2
    cases h2
    rw [k2] at h3
    cases h3
    rw [k3] at h4
    cases h4
    obtain ⟨⟨oc, vc, e1, _, e3, e4⟩, hP⟩ := h6
    have g2 := KX _ _ k4
    rw [g2] at e1
    cases e1
    cases e3
    rw [k5] at e4
    cases e4
    exact hP
  obtain ⟨fd, cs, sp, hT, nT, C, hb, hsp, hF⟩ := F w mg fa _ KX G.T.g hmg own
  exact LamX.law_callTs KX G.T.g G.T.b G.T.builtins G.T.nolimit hg hT nT C G.T.bmain hobj hints (Nat.le_trans hlen hn2) hr hF hb (fun H hH hS => hsp H a ns hlen hbits hH hS) fun H e s' => hCX w H s₁ e s'
/-- four classes -/
def adr4 (a b c d : Addr) : Nat → Addr
  | 0 => a
  | 1 => b
  | 2 => c
  | _ => d
/-- no lambda is made -/
theorem lawAt0 [Glo] {l : PySem.W.OpenLaw} {w : World} {K : PySem.W.Frag} {k : Nat} {mg : Str → Option Value} {fa : Addr} {h : Heap} {fd : FuncData} {f : List D → R D} (h0 : Glo.T = []) (hb : ∀ (s : Shared) (u : Value), BindsTo s fd ⟨[u], []⟩ [("script", u)])
    (law : ∀ ns : List Int, ns.length ≤ 63 → f [.scr ns] = .ok (.bl true))
    (F : ∀ base : Heap, K.In base → base.Ns mainGlobals mg → FnOk l.prog w K mg base (L2.CX l.prog w) k fa fd ["script"] (spD K 1 f)) : LamX.LawAtS l w K (L2.CX l.prog w) k 63 "script" mg fa h :=
  ⟨fd, [], spD K 1 f, (fun _ hp => by cases hp), (fun _ hp => by cases hp), (fun _ hp => by cases hp), hb, fun H a ns hl _ _ hS => law_end (fun p hp => by rw [h0] at hp; cases hp) hl hS (law ns hl), fun base h1 h2 _ => F base h1 h2⟩
theorem errIn_mk {K : PySem.W.Frag} {h : Heap} {mg : Str → Option Value} {x : Str} {C A : Addr} (X : K.In h) (G : h.Ns mainGlobals mg) (e : A = C) (a : PySem.W.nsIn K mainGlobals x = some (some (.ref C)))
    (x1 : PySem.W.excIn K C [.type "ValueError", .type "Exception", .type "BaseException", .type "object"] "ValueError.__new__" = true) (k : PySem.W.keepIn K (.ref C) = true) (b : PySem.W.subIn K (.ref C) (.type "BaseException") = some true) (t : PySem.W.typeIn K (.ref C) = some (.type "type")) : ErrIn K mg x A := by
  subst e
  exact ⟨PySem.W.mg_of X G a, x1, k, b, t⟩
end DD

/-! DDF: a lambda without parameters handed to a def that tells how it ended -/
namespace DD
open PySem PySem.Spec PyProof.Rows L2
section
variable {X : Cx}
theorem countP_eqU {y : V} : ∀ {ys : List V} {its : List Value}, Vals ys its → ys.all flatV = true → its.countP (eqU y) = ys.countP fun z => eqV z y
  | _, _, .nil, _ => rfl
  | _ :: _, _ :: _, .cons r rr, h => by
    rw [List.all_cons, Bool.and_eq_true] at h
    rw [List.countP_cons, List.countP_cons, countP_eqU rr h.2, eqU_of r h.1]
def rCntF (K : PySem.W.Frag) : V → List V → Hp → VK → Prop := fun x xs H Q => ∃ (p : Addr) (ys : List V) (y : V), x = .ref p ∧ xs = [y] ∧ SqL K H p ys ∧ flatV y = true ∧ ys.all flatV = true ∧ Q (.int (ys.countP (fun z => eqV z y) : Nat)) H
theorem mt_countF : MtR X "list.count" (rCntF X.K) := by
  intro pins s σ H x xs v us Q I rx rxs h
  obtain ⟨p, ys, y, rfl, rfl, hs, fy, fys, q⟩ := h
  cases rx
  cases rxs with
  | cons ry rt =>
    rename_i uy ut
    cases rt
    obtain ⟨its, rv, ⟨⟨cls, dd, data, sl⟩, n, ho, hc, hdn, hd⟩, hlen⟩ := I.list hs
    simp only at hc hd
    subst hc hd
    refine call_meets PySem.F.slot_list_count ⟨_, ho, rfl⟩ PySem.F.entry_list_count (PySem.F.args_list_count_2 _ _)
      (SeqAt.list_countAt p its.toArray n dd sl uy (eqU y)) ⟨ho, fun u' hu' => mem_eqAt ry fy rv fys u' (by simpa using hu'), ?_⟩
    have ec : its.toArray.toList.countP (eqU y) = ys.countP fun z => eqV z y := countP_eqU rv fys
    refine ⟨.int (ys.countP (fun z => eqV z y) : Nat), H, I.tok _, ⟨s.toks, ?_⟩, q⟩
    show Value.int ((its.toArray.toList.countP (eqU y) : Nat) : Int) s.toks = Value.int ((ys.countP (fun z => eqV z y) : Nat) : Int) s.toks
    rw [ec]
end
/-! ### what _law_told makes of how its deed ended -/
structure ToldIn [Glo] (K : PySem.W.Frag) (mg : Str → Option Value) : Prop where
  cd : ∃ CD : Addr, mg "DialError" = some (.ref CD) ∧ ∀ n, n < 4 → PySem.W.exmOne K (.ref (Glo.adr n)) (.ref CD) = some true
  c0 : mg "NoNumber" = some (.ref (Glo.adr 0))
  c1 : mg "Crossing" = some (.ref (Glo.adr 1))
  c2 : mg "NoFigure" = some (.ref (Glo.adr 2))
  c3 : mg "NoText" = some (.ref (Glo.adr 3))
  kit : ∀ n m, n < 4 → m < 4 → PySem.W.kitOne K (.ref (Glo.adr n)) (.ref (Glo.adr m)) = some (n == m)
  ve : ∀ n, n < 4 → PySem.W.kitOne K (.ref (Glo.adr n)) (.type "ValueError") = some true
  ex : ∀ n, n < 4 → ExcC K (Glo.adr n)
  bi : mg "isinstance" = none
  bv : mg "ValueError" = none
def sTold : Str := "told"
def sRef : Str := "refused"
def TTold [Glo] : (XK → Hp → VK → Prop) → Hp → VK → Prop := fun tl H Q =>
  tl (fun cls d H' => ∃ n, n < 4 ∧ cls = .ref (Glo.adr n) ∧ d = none ∧ ∀ H'' t, Same H' H'' → H' t = none → H'' t = some (.tup [.str sRef, .int (n : Nat)]) → Q (.ref t) H'') H
    (fun v H' => [V.str sTold, v].length ≤ sizeLine ∧ ∀ p, H' p = none → ∃ u, (some (some (V.ref p)) : Option (Option V)) = some (some u) ∧ Q u (upd H' p (.tup [.str sTold, v])))
def tryB : List Stmt → List Stmt
  | (.Try b _ _ _ _) :: _ => b
  | _ => []
def tryS : List Stmt → List Stmt
  | (.Try _ [.ExceptHandler _ _ s _] _ _ _) :: _ => s
  | _ => []
/-- what kinds holds -/
def kindV (n : Nat) : List V := [.bl (n == 0), .bl (n == 1), .bl (n == 2), .bl (n == 3)]
theorem kindV_count {n : Nat} (h : n < 4) : (kindV n).countP (fun z => eqV z (.bl true)) = 1 := by
  rcases (show n = 0 ∨ n = 1 ∨ n = 2 ∨ n = 3 by omega) with e | e | e | e <;> subst e <;> rfl
theorem kindV_at {n : Nat} (h : n < 4) : (kindV n)[n]? = some (.bl true) := by
  rcases (show n = 0 ∨ n = 1 ∨ n = 2 ∨ n = 3 by omega) with e | e | e | e <;> subst e <;> rfl
theorem kindV_no {n : Nat} (h : n < 4) (m : Nat) (z : V) (hm : m < n) (e : (kindV n)[m]? = some z) : eqV z (.bl true) = false := by
  rcases (show n = 0 ∨ n = 1 ∨ n = 2 ∨ n = 3 by omega) with q | q | q | q <;> subst q
  · omega
  · obtain rfl : m = 0 := by omega
    cases e
    rfl
  · rcases (show m = 0 ∨ m = 1 by omega) with q | q <;> subst q <;> cases e <;> rfl
  · rcases (show m = 0 ∨ m = 1 ∨ m = 2 by omega) with q | q | q <;> subst q <;> cases e <;> rfl
theorem kindV_flat (n : Nat) : (kindV n).all flatV = true := rfl
end DD

/-! DDG: x(lambda: body) over data -/
namespace DD
open PySem PySem.Spec PyProof.Rows L2
/-- what a def that calls its one argument makes of it -/
def TellsD [Glo] (K : PySem.W.Frag) (TTf : (XK → Hp → VK → Prop) → Hp → VK → Prop) (ψ : R D → R D) : Prop :=
  ∀ (F H : Hp) (r : R D) (Q : VK) (E : XK) (tl : XK → Hp → VK → Prop), Same F H → (∀ (E' : XK) (Q' : VK), W F H (PV K Q') r E' → tl E' H Q') → W F H (PV K Q) (ψ r) E → TTf tl H Q
def tellV (ψ : R D → R D) (a : Env → R D) : Env → R D := fun ρ => ψ (a ρ)
theorem d_lam [Glo] {X : Cx} {K : PySem.W.Frag} {E : XK} {TTf : (XK → Hp → VK → Prop) → Hp → VK → Prop} {ψ : R D → R D} {x a : Str} {st : Stmt} {c P : Addr} {k : Nat} {Ng : List Str} {params : Arguments} {body : Expr} {scope : Scope} {t : XK → TE} {φ : Env → R D} {p lpos pos : Pos}
    (TD : DefIn K X.mg x st [a]) (hg : Gl X x) (Sg : FnScope Ng [a] (defScope st)) (hNg : Ng[0]? = some a) (hva : Vis (defScope st) a)
    (hG : ∀ (g : Addr) (cdv : Value), LamX.GivesTo X Ng x (defScope st) g cdv (defBody st) a (X.env.qual ++ "<lambda>") TTf) (hψ : TellsD K TTf ψ)
    (TB : LamX.TabB X.base X.mg c P) (hcode : X.env.code = .ref c) (hmT : (P, X.env.qual ++ "<lambda>") ∈ Glo.T) (hu : ∀ p ∈ Glo.T, p.1 = P → p.2 = X.env.qual ++ "<lambda>") (hr : Room (k + 2) X.A) (L : LamX.LamS X.env.scope scope)
    (h : ∀ (A : Around) (outer : List PySem.Env) (s : Shared) (H : Hp) (E' : XK) (f c' : Addr), Room k (A.deeper (LamX.lamEnv X scope s.heap.objs.size f c')) → DE (LamX.lamCx X A outer s H E' scope f c') K E' body (t E') φ)
    (hdef : defaultsOf params X.env = ([], []) := by rfl)
    (hbind : ∀ (q : Str) (cl : List (Str × Addr)) (pm cv ctv : Value), bindArgs (PySem.W.kla_fn "<lambda>" q params body scope cl pm cv ctv) ⟨[], []⟩ = pure [] := by intros; rfl)
    (hdb : (x == ("__debug__" : Str)) = false := by decide) (hd : (a == ("__debug__" : Str)) = false := by decide) (hcd : (a == ("__classdict__" : Str)) = false := by decide) (hK : X.K = K := by rfl) :
    DE X K E (.Call (.Name x p) [.Lambda params body scope lpos] [] pos) (LamX.tLam Glo.T TTf t) (tellV ψ φ) := by
  subst hK
  obtain ⟨g, fd, F, hm, hb⟩ := TD
  obtain ⟨oc, od, kV, doc, pm, an, cdv, ct, osl, rfl, lk, hcg⟩ := F.ex
  refine ⟨LamX.pe_lamcall hg hm F.kp lk hcg hb Sg hNg hva (hG g cdv) TB hcode hmT hu hr L hdef hbind (fun A outer s H E' f c' hr' => (h A outer s H E' f c' hr').pe) hdb hd hcd, ?_⟩
  intro F0 B F σ H ρ Q ok w
  refine ⟨ok.gr.tb ok.tb, fun H1 e1 t1 => ?_⟩
  have nt := ok.gr.nt ok.nt
  have fh : Same F H1 := fun b o e => e1 b o (ok.fh b o e) fun ps z => nt b ps (by rw [e, z])
  have gr : Gr F H F H1 := ⟨e1, fun _ => t1, id, Same.refl F, fh, fun _ _ e => .inl e⟩
  refine hψ F H1 (φ ρ) Q E _ fh (fun E' Q' w' => ?_) (W.grow gr w)
  have hd := h (X.A.deeper X.env) [] X.s_0 X.H_0 E' 0 0 ((hr.deeper _).deeper _)
  exact hd.ev F0 B F σ H1 ρ Q' (ok.grow gr) w'
/-! ### _law_told -/
def toldR : R D → R D
  | .ok d => .ok (.tup [.str [116, 111, 108, 100], d])
  | .er n => if n < 4 then .ok (.tup [.str [114, 101, 102, 117, 115, 101, 100], .int n]) else .un
  | .un => .un
theorem told_tells [Glo] {K : PySem.W.Frag} : TellsD K TTold toldR := by
  intro F H r Q E tl s htl w
  cases r with
  | un => exact w.elim
  | ok d =>
    refine htl _ _ fun F' H' g v rv => ⟨by show 2 ≤ sizeLine; decide, fun p hp => ⟨.ref p, rfl, ?_⟩⟩
    have w : W F H (PV K Q) (.ok (.tup [.str [116, 111, 108, 100], d])) E := w
    refine w _ _ (g.trans (Gr.new g.fh hp)) _ (rep_tup_new (g.fh.free hp) ⟨.str sTold, [v], rfl, ⟨rfl, by decide, by decide +kernel⟩, v, [], rfl, rv, rfl⟩ (by show 2 ≤ sizeLine; decide))
  | er n =>
    have w : W F H (PV K Q) (if n < 4 then .ok (.tup [.str [114, 101, 102, 117, 115, 101, 100], .int n]) else .un) E := w
    by_cases hn : n < 4
    · rw [if_pos hn] at w
      refine htl _ _ fun F' H' g => ⟨n, hn, rfl, rfl, fun H'' t s1 s2 s3 => ?_⟩
      have f2 : F' t = none := g.fh.free s2
      have g2 : Gr F' H' (upd F' t (.tup [.str sRef, .int (n : Nat)])) H'' := by
        refine ⟨LamX.ExtN.of s1, fun z => z.ext s1, fun z => z.upd (fun _ q => nomatch q), same_new f2, fun b o e => ?_, fun b o e => ?_⟩
        · by_cases hb : b = t
          · subst hb
            rw [upd_same] at e
            cases e
            exact s3
          · rw [upd_ne hb] at e
            exact s1 b o (g.fh b o e)
        · by_cases hb : b = t
          · subst hb
            exact .inr (Fre.of s2)
          · rw [upd_ne hb] at e
            exact .inl e
      exact w _ _ (g.trans g2) _ (rep_tup_new f2 ⟨.str sRef, [.int n], rfl, ⟨rfl, by decide, by decide +kernel⟩, .int n, [], rfl, rfl, rfl⟩ (by show 2 ≤ sizeLine; decide))
    · rw [if_neg hn] at w
      exact w.elim
/-! ### defs whose code object is known -/
structure FunC (K : PySem.W.Frag) (x qual : Str) (st : Stmt) (f : Addr) (fd : FuncData) (c : Addr) : Prop where
  ex : ∃ (oc : Value) (od : Option Addr) (kV doc pm : Value) (an : Option Addr) (ct : Value) (osl : Array (Option Value)),
    fd = PySem.W.fnOf x qual (defArgs st) (defBody st) (defScope st) .none kV doc pm an (.ref c) ct ∧ K.lookup f = some ⟨oc, od, .func fd, osl⟩ ∧ PySem.W.codeIn K (.ref c) qual = true
  kp : PySem.W.keepIn K (.ref f) = true
section
variable {P : Program} {w : World} {K : PySem.W.Frag} {mg : Str → Option Value} {base : Heap}
theorem fnok_mkC [Glo] {x qual : Str} {st : Stmt} {f c : Addr} {fd : FuncData} {N ps : List Str} {k : Nat} {φ : Env → R Out} (F : FunC K x qual st f fd c) (S : FnScope N ps (defScope st))
    (body : ∀ (A : Around) (outer : List PySem.Env) (s : Shared) (H : Hp) (E : XK), Room k (A.deeper (envOfC qual (defScope st) s.heap.objs.size f (.ref c))) → ∃ t, DSs (bodyX P w K mg base N qual (defScope st) f (.ref c) A outer s H E) K E (defBody st) t φ) :
    FnOk P w K mg base (L2.CX P w) (k + 1) f fd ps (spD K ps.length (runF φ N.length)) := by
  obtain ⟨oc, od, kV, doc, pm, an, ct, osl, rfl, lk, hcd⟩ := F.ex
  refine fn_of lk hcd S (fun vs H Q E h => ?_) (fun A outer s H vs Q E hr h => ?_)
  · obtain ⟨F', ds, h1, _, _, _, h2, _⟩ := h
    rw [← Reps.length h2]
    exact h1
  · obtain ⟨F', ds, h1, h0, hn, h2, h3, h4⟩ := h
    obtain ⟨t, b⟩ := body A outer s H E hr
    exact ⟨t, b.ps, b.ev F' H F' (L2.start N vs) H (initE N.length ds) _ (start_ok h0 hn h2 h3) (fin_ok h4)⟩
def DefInC (K : PySem.W.Frag) (mg : Str → Option Value) (x : Str) (st : Stmt) (ps : List Str) (c : Addr) : Prop := ∃ (f : Addr) (fd : FuncData), FunC K x x st f fd c ∧ mg x = some (.ref f) ∧ Binds K fd ps []
theorem fn_mkC [Glo] {x qual : Str} {st : Stmt} {f c : Addr} {fd : FuncData} {N ps : List Str} {k : Nat} {φ : Env → R Out} (F : FunC K x qual st f fd c) (S : FnScope N ps (defScope st)) (hm : mg x = some (.ref f)) (hb : Binds K fd ps [])
    (body : ∀ (A : Around) (outer : List PySem.Env) (s : Shared) (H : Hp) (E : XK), Room k (A.deeper (envOfC qual (defScope st) s.heap.objs.size f (.ref c))) → ∃ t, DSs (bodyX P w K mg base N qual (defScope st) f (.ref c) A outer s H E) K E (defBody st) t φ) :
    Fn P w K mg base x (k + 1) ps.length (runF φ N.length) := ⟨f, fd, ps, fnok_mkC F S body, hm, F.kp, hb, rfl⟩
theorem funC_mk {x qual : Str} {st : Stmt} {f c : Addr} {oc : Value} {od an : Option Addr} {osl : Array (Option Value)} {kV doc pm ct : Value} (l : K.lookup f = some ⟨oc, od, .func (PySem.W.fnOf x qual (defArgs st) (defBody st) (defScope st) .none kV doc pm an (.ref c) ct), osl⟩)
    (h : PySem.W.codeIn K (.ref c) qual = true) (k : PySem.W.keepIn K (.ref f) = true) : FunC K x qual st f (PySem.W.fnOf x qual (defArgs st) (defBody st) (defScope st) .none kV doc pm an (.ref c) ct) c := ⟨⟨oc, od, kV, doc, pm, an, ct, osl, rfl, l, h⟩, k⟩
theorem FunC.fn {x qual : Str} {st : Stmt} {f c : Addr} {fd : FuncData} (F : FunC K x qual st f fd c) : Fun K x qual st f fd := by
  obtain ⟨oc, od, kV, doc, pm, an, ct, osl, e, l, h⟩ := F.ex
  exact ⟨⟨oc, od, kV, doc, pm, an, .ref c, ct, osl, e, l, h⟩, F.kp⟩
theorem defInC_mk {h : Heap} {x : Str} {st : Stmt} {f c : Addr} {oc : Value} {od an : Option Addr} {osl : Array (Option Value)} {kV doc pm ct : Value} (X : K.In h) (G : h.Ns mainGlobals mg) (ps : List Str)
    (a : PySem.W.nsIn K mainGlobals x = some (some (.ref f))) (l : K.lookup f = some ⟨oc, od, .func (PySem.W.fnOf x x (defArgs st) (defBody st) (defScope st) .none kV doc pm an (.ref c) ct), osl⟩)
    (hc : PySem.W.codeIn K (.ref c) x = true) (k : PySem.W.keepIn K (.ref f) = true)
    (hb : ∀ (kV doc pm : Value) (an : Option Addr) (cdv ct : Value) (us : List Value), us.length = ps.length → bindArgs (PySem.W.fnOf x x (defArgs st) (defBody st) (defScope st) .none kV doc pm an cdv ct) ⟨us, []⟩ = pure (ps.zip us)) : DefInC K mg x st ps c :=
  have F := funC_mk (st := st) l hc k
  ⟨f, _, F, PySem.W.mg_of X G a, F.fn.binds hb⟩
end
/-! ### the end with tables -/
theorem lawAtT [Glo] {l : PySem.W.OpenLaw} {w : World} {K : PySem.W.Frag} {k : Nat} {mg : Str → Option Value} {fa : Addr} {h : Heap} {fd : FuncData} {f : List D → R D} (cs : List (Addr × Addr)) (h0 : ∀ p ∈ Glo.T, p.1 ∈ cs.map (·.2))
    (hT : ∀ p ∈ cs, h.get? p.2 = some { cls := .none, data := .fields #[] }) (nT : ∀ p ∈ cs, K.lookup p.2 = none) (hC : ∀ p ∈ cs, PySem.W.CodeHd h p.1 p.2)
    (hb : ∀ (s : Shared) (u : Value), BindsTo s fd ⟨[u], []⟩ [("script", u)])
    (law : ∀ ns : List Int, ns.length ≤ 63 → f [.scr ns] = .ok (.bl true))
    (F : ∀ base : Heap, K.In base → base.Ns mainGlobals mg → (∀ p ∈ cs, LamX.TabB base mg p.1 p.2) → FnOk l.prog w K mg base (L2.CX l.prog w) k fa fd ["script"] (spD K 1 f)) : LamX.LawAtS l w K (L2.CX l.prog w) k 63 "script" mg fa h :=
  ⟨fd, cs, spD K 1 f, hT, nT, hC, hb, fun H a ns hl _ hH hS => law_end (fun p hp => by
    obtain ⟨z, hz, e⟩ := List.mem_map.mp (h0 p hp)
    exact LamX.TabS.nil (by rw [← e]; exact hH z hz)) hl hS (law ns hl), F⟩
/-- what the top leaves of a def's table of code objects -/
def OwnT (K : PySem.W.Frag) (f : Addr) (h : Heap) : Prop := ∀ (c P : Addr) (o : Obj) (fd : FuncData) (e : Value) (dd : Option Addr) (vs : Array Value) (sl : Array (Option Value)), K.lookup f = some o → o.data = .func fd → fd.code = .ref c → K.lookup c = some ⟨e, dd, .fields vs, sl⟩ → vs[11]? = some (.ref P) →
  h.get? P = some { cls := .none, data := .fields #[] } ∧ PySem.W.CodeHd h c P
theorem walk_tab {l : PySem.W.OpenLaw} {n k : Nat} {q : Program} {loose : List Str} {XP : (Str → Option Value) → Heap → Prop} {YP : World → Heap → Prop} {d : DefRec} {K : Params → PySem.W.Frag} {CX : World → CXT} {x : Str}
    (hn : l.most = some n) (hn2 : n ≤ sizeLine) (hdf : d.params.defaults = []) (hr : Room k callerA) (hY : ∀ (w : World) (h : Heap), YP w h → (K w.params).In h)
    (F : ∀ (w : World) (mg : Str → Option Value) (fa : Addr) (h : Heap), (K w.params).In h → h.Ns mainGlobals mg → mg d.name = some (.ref fa) →
      (∀ (y : Str) (f : Addr), ((recsOf q).any fun e => e.name == y) = true → mg y = some (.ref f) → OwnT (K w.params) f h) → LamX.LawAtS l w (K w.params) (CX w) k n x mg fa h)
    (hCX : ∀ (w : World) (H : Hp) (s : Shared) (e : Value) (s' : Shared), CX w [] H s (fun _ _ _ => False) e s' → False) :
    PySem.W.WalkO q loose XP YP l.row.toRowW d [] (fun f vs => PySem.call f vs) := by
  refine Att.attach_callB hn hdf fun w s₀ s₁ mg mb fa o pm cd doc a vs ns G Y ho hd hcd hmg hobj hints hlen hbits hg => ?_
  have KX := hY w _ Y
  have own : ∀ (y : Str) (f : Addr), ((recsOf q).any fun e => e.name == y) = true → mg y = some (.ref f) → OwnT (K w.params) f s₁.heap := fun y f hrec hy c P o1 fd1 e dd vs1 sl k1 k2 k3 k4 k5 => by
    obtain ⟨dL, hm, hn1⟩ := List.any_eq_true.mp hrec
    have hn2 : dL.name = y := beq_iff_eq.mp hn1
    obtain ⟨a', o', fd', c', P', h1, h2, h3, h4, h5, h6⟩ := G.T.tab dL hm
    have hd := PySem.W.CodeHd.of h5 h6
    rw [hn2, hy] at h1
    cases h1
    have g1 := KX _ _ k1
    rw [g1] at h2
    cases h2
    rw [k2] at h3
    cases h3
    rw [k3] at h4
    cases h4
    obtain ⟨⟨oc, vc, e1, _, e3, e4⟩, hP⟩ := h6
    have g2 := KX _ _ k4
    rw [g2] at e1
    cases e1
    cases e3
    rw [k5] at e4
    cases e4
    exact ⟨hP, hd⟩
  obtain ⟨fd, cs, sp, hT, nT, C, hb, hsp, hF⟩ := F w mg fa _ KX G.T.g hmg own
  exact LamX.law_callTs KX G.T.g G.T.b G.T.builtins G.T.nolimit hg hT nT C G.T.bmain hobj hints (Nat.le_trans hlen hn2) hr hF hb (fun H hH hS => hsp H a ns hlen hbits hH hS) fun H e s' => hCX w H s₁ e s'
theorem noTab_lookup {K : PySem.W.Frag} {h : Heap} {P : Addr} (X : K.In h) (nt : PySem.W.noTabs K = true) (hP : h.get? P = some { cls := .none, data := .fields #[] }) : K.lookup P = none := by
  cases e : K.lookup P with
  | none => rfl
  | some o =>
    have q := X P o e
    rw [hP] at q
    have h2 := List.all_eq_true.mp nt (P, o) (PySem.W.mem_of_lookupK e)
    cases q
    exact absurd (show false = true from h2) Bool.false_ne_true
theorem pxL {X : Cx} {A : Around} {outer : List PySem.Env} {s : Shared} {H : Hp} {E : XK} {scope : Scope} {f c' : Addr} : Passes (L2.CX (LamX.lamCx X A outer s H E scope f c').prog (LamX.lamCx X A outer s H E scope f c').w) (LamX.lamCx X A outer s H E scope f c') E :=
  passes_call (takes_of rfl rfl rfl rfl) (fun _ _ _ _ h => h)
theorem told_mk [Glo] {K : PySem.W.Frag} {h : Heap} {mg : Str → Option Value} {CD C0 C1 C2 C3 : Addr} (X : K.In h) (G : h.Ns mainGlobals mg) (a0 : Glo.adr 0 = C0) (a1 : Glo.adr 1 = C1) (a2 : Glo.adr 2 = C2) (a3 : Glo.adr 3 = C3)
    (nd : PySem.W.nsIn K mainGlobals "DialError" = some (some (.ref CD))) (n0 : PySem.W.nsIn K mainGlobals "NoNumber" = some (some (.ref C0))) (n1 : PySem.W.nsIn K mainGlobals "Crossing" = some (some (.ref C1))) (n2 : PySem.W.nsIn K mainGlobals "NoFigure" = some (some (.ref C2))) (n3 : PySem.W.nsIn K mainGlobals "NoText" = some (some (.ref C3)))
    (bi : PySem.W.nsIn K mainGlobals "isinstance" = some none) (bv : PySem.W.nsIn K mainGlobals "ValueError" = some none)
    (sd : PySem.W.subIn K (.ref CD) (.type "BaseException") = some true) (dd : PySem.W.hasDictIn K CD = true) (td : PySem.W.typeIn K (.ref CD) = some (.type "type"))
    (s0 : PySem.W.subIn K (.ref C0) (.ref CD) = some true) (s1 : PySem.W.subIn K (.ref C1) (.ref CD) = some true) (s2 : PySem.W.subIn K (.ref C2) (.ref CD) = some true) (s3 : PySem.W.subIn K (.ref C3) (.ref CD) = some true)
    (k00 : PySem.W.kitOne K (.ref C0) (.ref C0) = some true) (k01 : PySem.W.kitOne K (.ref C0) (.ref C1) = some false) (k02 : PySem.W.kitOne K (.ref C0) (.ref C2) = some false) (k03 : PySem.W.kitOne K (.ref C0) (.ref C3) = some false)
    (k10 : PySem.W.kitOne K (.ref C1) (.ref C0) = some false) (k11 : PySem.W.kitOne K (.ref C1) (.ref C1) = some true) (k12 : PySem.W.kitOne K (.ref C1) (.ref C2) = some false) (k13 : PySem.W.kitOne K (.ref C1) (.ref C3) = some false)
    (k20 : PySem.W.kitOne K (.ref C2) (.ref C0) = some false) (k21 : PySem.W.kitOne K (.ref C2) (.ref C1) = some false) (k22 : PySem.W.kitOne K (.ref C2) (.ref C2) = some true) (k23 : PySem.W.kitOne K (.ref C2) (.ref C3) = some false)
    (k30 : PySem.W.kitOne K (.ref C3) (.ref C0) = some false) (k31 : PySem.W.kitOne K (.ref C3) (.ref C1) = some false) (k32 : PySem.W.kitOne K (.ref C3) (.ref C2) = some false) (k33 : PySem.W.kitOne K (.ref C3) (.ref C3) = some true)
    (v0 : PySem.W.kitOne K (.ref C0) (.type "ValueError") = some true) (v1 : PySem.W.kitOne K (.ref C1) (.type "ValueError") = some true) (v2 : PySem.W.kitOne K (.ref C2) (.type "ValueError") = some true) (v3 : PySem.W.kitOne K (.ref C3) (.type "ValueError") = some true)
    (e0 : ExcC K C0) (e1 : ExcC K C1) (e2 : ExcC K C2) (e3 : ExcC K C3) : ToldIn K mg := by
  subst a0 a1 a2 a3
  refine ⟨⟨CD, PySem.W.mg_of X G nd, fun n hn => ?_⟩, PySem.W.mg_of X G n0, PySem.W.mg_of X G n1, PySem.W.mg_of X G n2, PySem.W.mg_of X G n3, fun n m hn hm => ?_, fun n hn => ?_, fun n hn => ?_, PySem.W.mg_none_of X G bi, PySem.W.mg_none_of X G bv⟩
  · rcases (show n = 0 ∨ n = 1 ∨ n = 2 ∨ n = 3 by omega) with e | e | e | e <;> subst e
    · exact PySem.W.exm_ref sd dd td s0
    · exact PySem.W.exm_ref sd dd td s1
    · exact PySem.W.exm_ref sd dd td s2
    · exact PySem.W.exm_ref sd dd td s3
  · rcases (show n = 0 ∨ n = 1 ∨ n = 2 ∨ n = 3 by omega) with e | e | e | e <;> subst e <;> rcases (show m = 0 ∨ m = 1 ∨ m = 2 ∨ m = 3 by omega) with e | e | e | e <;> subst e <;> assumption
  · rcases (show n = 0 ∨ n = 1 ∨ n = 2 ∨ n = 3 by omega) with e | e | e | e <;> subst e <;> assumption
  · rcases (show n = 0 ∨ n = 1 ∨ n = 2 ∨ n = 3 by omega) with e | e | e | e <;> subst e <;> assumption
/-- the facts of one maker of lambdas -/
theorem tab_at {K : PySem.W.Frag} {h : Heap} {f c P : Addr} {oc : Value} {od : Option Addr} {osl : Array (Option Value)} {fd : FuncData} {e : Value} {dd : Option Addr} {vs : Array Value} {sl : Array (Option Value)} (O : OwnT K f h)
    (lf : K.lookup f = some ⟨oc, od, .func fd, osl⟩) (hc : fd.code = .ref c) (lc : K.lookup c = some ⟨e, dd, .fields vs, sl⟩) (hv : vs[11]? = some (.ref P)) : h.get? P = some { cls := .none, data := .fields #[] } ∧ PySem.W.CodeHd h c P :=
  O c P _ fd e dd vs sl lf rfl hc lc hv
end DD

/-! DDH: dict(pairs) -/
namespace DD
open PySem PySem.Spec PyProof.Rows L2
def pairK : D → Option (List Nat × D)
  | .tup [.str k, v] => some (k, v)
  | _ => none
def pairsK : List D → Option (List (List Nat × D))
  | [] => some []
  | d :: ds => match pairK d, pairsK ds with
    | some p, some ps => some (p :: ps)
    | _, _ => none
def mergeD (kvs : List (List Nat × D)) : List (List Nat × D) := kvs.foldl (fun acc kv => kPut acc kv.1 kv.2) []
def newDS (i : Nat) (a : Env → R D) : Env → R Out := fun ρ => (a ρ).bind fun d => match d with
  | .lst ds => match pairsK ds with
    | some kvs => if kvs.length ≤ line then .ok (.nx (ρ.set i (.M (mergeD kvs)))) else .un
    | none => .un
  | _ => .un
section
variable {X : Cx} {E : XK} {K : PySem.W.Frag}
theorem pairK_eq {d : D} {p : List Nat × D} (h : pairK d = some p) : d = .tup [.str p.1, p.2] := by
  unfold pairK at h
  split at h
  · cases h
    rfl
  · cases h
theorem pairs_rep {F H : Hp} (s : Same F H) : ∀ {ds : List D} {kvs : List (List Nat × D)} {vs : List V}, pairsK ds = some kvs → Reps K F ds vs → ∃ (ps : List Addr) (kv : List (Key × V)), vs = ps.map V.ref ∧ Paired (fun p (q : Key × V) => SqT K H p [kV q.1, q.2]) ps kv ∧ RepKs K F kvs kv ∧ kv.length = kvs.length
  | [], kvs, vs, h, r => by
    cases h
    have r : vs = [] := r
    subst r
    exact ⟨[], [], rfl, .nil, rfl, rfl⟩
  | d :: ds, kvs, vs, h, r => by
    obtain ⟨v, r', rfl, r1, r2⟩ := r
    unfold pairsK at h
    split at h
    · rename_i p ps hp hps
      cases h
      rw [pairK_eq hp] at r1
      obtain ⟨a, us, rfl, h1, h2, h3⟩ := r1
      obtain ⟨u1, w1, rfl, rk, u2, w2, rfl, rd, e⟩ := h3
      have e : w2 = [] := e
      subst e
      obtain ⟨rfl, k1, k2⟩ := rk
      obtain ⟨qs, kv, rfl, g1, g2, g3⟩ := pairs_rep s hps r2
      exact ⟨a :: qs, (Sum.inr ⟨p.1.toArray⟩, u2) :: kv, rfl, .cons (Same.sqT s h1) g1, ⟨u2, kv, rfl, ⟨k1, k2⟩, rd, g2⟩, by rw [List.length_cons, List.length_cons, g3]⟩
    · cases h
theorem repks_keyok {F : Hp} {k : List Nat} {d : D} {kvs : List (List Nat × D)} {kv : List (Key × V)} (h : RepKs K F ((k, d) :: kvs) kv) : k.length ≤ sizeLine ∧ PyData.strOk ⟨k.toArray⟩ = true := by
  obtain ⟨_, _, _, h0, _⟩ := h
  exact h0
theorem merge_rep {F : Hp} : ∀ {kvs acc : List (List Nat × D)} {kv accK : List (Key × V)}, RepKs K F kvs kv → RepKs K F acc accK → RepKs K F (kvs.foldl (fun acc kv => kPut acc kv.1 kv.2) acc) (mergeK accK kv) ∧ (mergeK accK kv).length ≤ accK.length + kv.length
  | [], acc, kv, accK, h, g => by
    have h : kv = [] := h
    subst h
    exact ⟨g, Nat.le_refl _⟩
  | (k, d) :: kvs, acc, kv, accK, h, g => by
    obtain ⟨v, r, rfl, h0, h1, h2⟩ := h
    obtain ⟨q1, q2⟩ := merge_rep h2 (repks_put h0 h1 g)
    refine ⟨q1, Nat.le_trans q2 ?_⟩
    have : (putK accK (Sum.inr ⟨k.toArray⟩) v).length ≤ accK.length + 1 := by
      unfold putK
      split
      · rw [List.length_map]; omega
      · rw [List.length_append]; exact Nat.le_refl _
    rw [List.length_cons]
    omega
theorem s_newD [Glo] {x : Str} {i : Nat} {e : Expr} {te : TE} {a : Env → R D} {p pos pos' pos2 : Pos} (hN : X.N.Nodup) (hi : X.N[i]? = some x) (hx : Loc X.env.scope x) (hc : X.calm = true) (hg : Gl X "dict") (hm : X.mg "dict" = none) (h : DE X K E e te a)
    (hse : starEach [e] X.env = (false, eval e X.env) :: starEach [] X.env := by rfl)
    (hs : swapsWith (.Call (.Name "dict" p) [e] [] pos2) (some (.Name x pos')) pos.line X.env = pure false := by rfl)
    (hf : X.fn x = true ∨ X.env.scope.names.lookup x = some .local := by first | exact .inl rfl | exact .inr rfl | assumption) (hK : X.K = K := by rfl) :
    DS X K E (.Assign [.Name x pos'] (.Call (.Name "dict" p) [e] [] pos2) pos) (tAsg (tCB (fun xs H Q => ∃ (a : Addr) (ps : List Addr) (kvs : List (Key × V)), xs = [.ref a] ∧ SqL K H a (ps.map V.ref) ∧ Paired (fun p kv => SqT K H p [kV kv.1, kv.2]) ps kvs ∧ ∀ p, H p = none → Q (.ref p) (upd H p (.dK (mergeK [] kvs)))) (tCons te tNil)) (gName i)) (newDS i a) := by
  subst hK
  refine ⟨ps_set hN hi hx (pe_callTy (call_dictP hc) hg hm (by decide +kernel) (pa_cons h.pe pa_nil hse) (he := hse)) hs hf, fun F0 B F σ H ρ Dn ok w => ?_⟩
  refine h.ev F0 B F σ H ρ _ ok (W.imp (WS.bind ok.gr w) fun d F1 H1 g1 w1 v r1 => ?_)
  have ok1 := ok.grow g1
  cases d with
  | lst ds =>
    have w1 : WS X.K F0 B Dn (match pairsK ds with
      | some kvs => if kvs.length ≤ line then .ok (.nx (ρ.set i (.M (mergeD kvs)))) else .un
      | none => .un) E := w1
    cases hp : pairsK ds with
    | none => rw [hp] at w1; exact w1.elim
    | some kvs =>
      rw [hp] at w1
      have w1 : WS X.K F0 B Dn (if kvs.length ≤ line then .ok (.nx (ρ.set i (.M (mergeD kvs)))) else .un) E := w1
      by_cases hl : kvs.length ≤ line
      · rw [if_pos hl] at w1
        obtain ⟨q, vs, rfl, h1, h2, h3⟩ := r1
        obtain ⟨ps, kv, rfl, g2, g3, g4⟩ := pairs_rep ok1.fh hp h3
        refine ⟨q, ps, kv, rfl, SqL.of (ok1.fh _ _ h1), g2, fun b hb => ?_⟩
        obtain ⟨m1, m2⟩ := merge_rep (acc := []) (accK := []) g3 rfl
        exact w1 F1 _ _ (ok1.fresh i hb ⟨b, _, rfl, (Fre.of hb).back ok1.gr.hh, ok1.fh.free hb, upd_same, by rw [← line_eq]; simp at m2; omega, m1⟩)
      · rw [if_neg hl] at w1
        exact w1.elim
  | non => exact w1.elim
  | bl _ => exact w1.elim
  | int _ => exact w1.elim
  | str _ => exact w1.elim
  | tup _ => exact w1.elim
  | dct _ => exact w1.elim
  | scr _ => exact w1.elim
end
end DD

/-! DDI: x in t, x not in t, where items are data of any depth -/
namespace DD
open PySem PySem.Spec PyProof.Rows L2
section
variable {X : Cx} {K : PySem.W.Frag}
def rInP (K : PySem.W.Frag) (neg : Bool) : R2 := fun x y H Q => ∃ d ds, Dp K H x d ∧ (Dp K H y (.list ds) ∨ Dp K H y (.tuple ds)) ∧ (d.canLay0 = true ∧ d.depth ≤ 61) ∧ PyData.canLayAll0 ds = true ∧ Q (.bl (if neg then !(ds.any fun z => PyData.eqv z d) else ds.any fun z => PyData.eqv z d)) H
theorem op_inP (hu : X.A.units + 64 < cLine) : OpR X (compareOp .In) (rInP X.K false) := by
  intro pins s σ H x y v u Q I rx ry h
  obtain ⟨d, ds, hd, he, sd, se, q⟩ := h
  obtain ⟨as, r1⟩ := Dp.reads I d x v hd rx
  rcases he with he | he
  · obtain ⟨bs, r2⟩ := Dp.reads I (.list ds) y u he ry
    exact SeqAt.in_list_reads r2 r1 se sd.1 (by have := Nat.min_le_right (PyData.depthAll ds) d.depth; have := sd.2; omega) ⟨.bl _, H, I, rfl, q⟩
  · obtain ⟨bs, r2⟩ := Dp.reads I (.tuple ds) y u he ry
    exact SeqAt.in_tuple_reads r2 r1 se sd.1 (by have := Nat.min_le_right (PyData.depthAll ds) d.depth; have := sd.2; omega) ⟨.bl _, H, I, rfl, q⟩
theorem op_notInP (hu : X.A.units + 64 < cLine) : OpR X (compareOp .NotIn) (rInP X.K true) := by
  intro pins s σ H x y v u Q I rx ry h
  obtain ⟨d, ds, hd, he, sd, se, q⟩ := h
  obtain ⟨as, r1⟩ := Dp.reads I d x v hd rx
  rcases he with he | he
  · obtain ⟨bs, r2⟩ := Dp.reads I (.list ds) y u he ry
    exact SeqAt.notIn_list_reads r2 r1 se sd.1 (by have := Nat.min_le_right (PyData.depthAll ds) d.depth; have := sd.2; omega) ⟨.bl _, H, I, rfl, q⟩
  · obtain ⟨bs, r2⟩ := Dp.reads I (.tuple ds) y u he ry
    exact SeqAt.notIn_tuple_reads r2 r1 se sd.1 (by have := Nat.min_le_right (PyData.depthAll ds) d.depth; have := sd.2; omega) ⟨.bl _, H, I, rfl, q⟩
def dInBP (x y : D) : R Bool := match y with
  | .tup xs => if D.plain x 60 = true ∧ D.plains xs 59 = true then .ok (xs.any fun z => D.eqv z x) else .un
  | .lst xs => if D.plain x 60 = true ∧ D.plains xs 59 = true then .ok (xs.any fun z => D.eqv z x) else .un
  | _ => .un
def dInP (x y : D) : R D := (dInBP x y).bind fun b => .ok (.bl b)
def dNotInP (x y : D) : R D := (dInBP x y).bind fun b => .ok (.bl (!b))
theorem ne_inBP (x y : D) (c : Addr) : dInBP x y ≠ .er c := by
  unfold dInBP
  split
  · split <;> simp
  · split <;> simp
  · simp
theorem ne_inP : NoEr dInP := by
  intro x y c e
  unfold dInP at e
  cases h : dInBP x y with
  | un => rw [h] at e; cases e
  | er z => exact ne_inBP x y z h
  | ok b => rw [h] at e; cases e
theorem ne_notInP : NoEr dNotInP := by
  intro x y c e
  unfold dNotInP at e
  cases h : dInBP x y with
  | un => rw [h] at e; cases e
  | er z => exact ne_inBP x y z h
  | ok b => rw [h] at e; cases e
theorem any_toPy {d : D} (hd : D.plain d 60 = true) : ∀ xs : List D, D.plains xs 59 = true → ((toPys xs).any fun z => PyData.eqv z (toPy d)) = xs.any fun z => D.eqv z d
  | [], _ => by simp [toPys]
  | x :: xs, h => by
    have h : D.plain x 59 = true ∧ D.plains xs 59 = true := by simpa [D.plains] using h
    simp only [toPys, List.any_cons]
    rw [eqv_toPy x d _ _ h.1 hd, any_toPy hd xs h.2]
theorem inP_ok {F H : Hp} {x y : D} {v u : V} {Q : VK} {neg : Bool} (s : Same F H) (rx : Rep K F x v) (ry : Rep K F y u) {b : Bool} (e : dInBP x y = .ok b) (q : Q (.bl (if neg then !b else b)) H) : rInP K neg v u H Q := by
  unfold dInBP at e
  split at e
  · split at e
    · rename_i xs hc
      cases e
      have pl : D.plain (.tup xs) 60 = true := hc.2
      have dp := rep_dp s (.tup xs) u _ pl ry
      simp only [toPy] at dp
      have sh := (shaped_py (.tup xs) u 60 pl ry).1
      simp only [toPy, PyData.canLay0] at sh
      refine ⟨toPy x, toPys xs, rep_dp s x v _ hc.1 rx, .inr dp, shaped_py x v 60 hc.1 rx, sh, ?_⟩
      rw [any_toPy hc.1 xs hc.2]
      exact q
    · cases e
  · split at e
    · rename_i xs hc
      cases e
      have pl : D.plain (.lst xs) 60 = true := hc.2
      have dp := rep_dp s (.lst xs) u _ pl ry
      simp only [toPy] at dp
      have sh := (shaped_py (.lst xs) u 60 pl ry).1
      simp only [toPy, PyData.canLay0] at sh
      refine ⟨toPy x, toPys xs, rep_dp s x v _ hc.1 rx, .inl dp, shaped_py x v 60 hc.1 rx, sh, ?_⟩
      rw [any_toPy hc.1 xs hc.2]
      exact q
    · cases e
  · cases e
theorem od_inP [Glo] : OpD K (rInP K false) dInP := by
  intro F H x y v u Q s rx ry E _ w
  unfold dInP at w
  cases h : dInBP x y with
  | un => rw [h] at w; exact w.elim
  | er z => exact absurd h (ne_inBP x y z)
  | ok b =>
    rw [h] at w
    exact inP_ok s rx ry h (W.ok (P := PV K Q) s w _ rfl)
theorem od_notInP [Glo] : OpD K (rInP K true) dNotInP := by
  intro F H x y v u Q s rx ry E _ w
  unfold dNotInP at w
  cases h : dInBP x y with
  | un => rw [h] at w; exact w.elim
  | er z => exact absurd h (ne_inBP x y z)
  | ok b =>
    rw [h] at w
    exact inP_ok s rx ry h (W.ok (P := PV K Q) s w _ rfl)
@[simp] theorem dNotInP_tup {x : D} {xs : List D} (h : D.plain x 60 = true) (h2 : D.plains xs 59 = true) : dNotInP x (.tup xs) = .ok (.bl (!(xs.any fun z => D.eqv z x))) := by
  unfold dNotInP dInBP
  simp only
  rw [if_pos ⟨h, h2⟩]
  rfl
@[simp] theorem dInP_tup {x : D} {xs : List D} (h : D.plain x 60 = true) (h2 : D.plains xs 59 = true) : dInP x (.tup xs) = .ok (.bl (xs.any fun z => D.eqv z x)) := by
  unfold dInP dInBP
  simp only
  rw [if_pos ⟨h, h2⟩]
  rfl
end
end DD

/-! DDK: a dict of one's own, locked while an expression walks it -/
namespace DD
open PySem PySem.Spec PyProof.Rows L2
/-- alike but for locked dicts -/
def SameR (F F' : Hp) : Prop := ∀ a o, F a = some o → (∀ od kv, o ≠ .frz od (.dK kv)) → F' a = some o
section
variable {K : PySem.W.Frag} {F F' : Hp}
theorem SameR.sqT {a : Addr} {xs : List V} (e : SameR F F') (h : SqT K F a xs) : SqT K F' a xs := by
  rcases h with (h | ⟨o, h⟩) | h
  · exact .inl (.inl (e _ _ h fun _ _ z => nomatch z))
  · exact .inl (.inr ⟨o, e _ _ h fun _ _ z => nomatch z⟩)
  · exact .inr h
theorem SameR.sqL {a : Addr} {xs : List V} (e : SameR F F') (h : SqL K F a xs) : SqL K F' a xs := by
  rcases h with (h | ⟨o, h⟩) | h
  · exact .inl (.inl (e _ _ h fun _ _ z => nomatch z))
  · exact .inl (.inr ⟨o, e _ _ h fun _ _ z => nomatch z⟩)
  · exact .inr h
mutual
theorem Rep.monoR (e : SameR F F') : ∀ (d : D) (v : V), Rep K F d v → Rep K F' d v
  | .non, _, h => h
  | .bl _, _, h => h
  | .int _, _, h => h
  | .str _, _, h => h
  | .tup ds, v, h => by
    obtain ⟨a, vs, rfl, h1, h2, h3⟩ := h
    exact ⟨a, vs, rfl, e.sqT h1, h2, Reps.monoR e ds vs h3⟩
  | .lst ds, v, h => by
    obtain ⟨a, vs, rfl, h1, h2, h3⟩ := h
    exact ⟨a, vs, rfl, e _ _ h1 (fun _ _ z => nomatch z), h2, Reps.monoR e ds vs h3⟩
  | .scr ns, v, h => by
    obtain ⟨a, rfl, h1, h2⟩ := h
    exact ⟨a, rfl, e.sqL h1, h2⟩
  | .dct kvs, v, h => by
    obtain ⟨a, vs, rfl, h1, h2, h3⟩ := h
    exact ⟨a, vs, rfl, e _ _ h1 (fun _ _ z => nomatch z), h2, RepKs.monoR e kvs vs h3⟩
theorem Reps.monoR (e : SameR F F') : ∀ (ds : List D) (vs : List V), Reps K F ds vs → Reps K F' ds vs
  | [], _, h => h
  | d :: ds, vs, h => by
    obtain ⟨v, r, rfl, h1, h2⟩ := h
    exact ⟨v, r, rfl, Rep.monoR e d v h1, Reps.monoR e ds r h2⟩
theorem RepKs.monoR (e : SameR F F') : ∀ (ds : List (List Nat × D)) (vs : List (Key × V)), RepKs K F ds vs → RepKs K F' ds vs
  | [], _, h => h
  | (k, d) :: ds, vs, h => by
    obtain ⟨v, r, rfl, h0, h1, h2⟩ := h
    exact ⟨v, r, rfl, h0, Rep.monoR e d v h1, RepKs.monoR e ds r h2⟩
end
/-- the frozen part without one place -/
def less (F : Hp) (a : Addr) : Hp := fun b => if b = a then none else F b
theorem less_ne {a b : Addr} (h : b ≠ a) : less F a b = F b := if_neg h
theorem less_at {a : Addr} : less F a a = none := if_pos rfl
theorem less_R {a : Addr} {od : Obj} {kv : List (Key × V)} (h : F a = some (.frz od (.dK kv))) : SameR F (less F a) := fun b o e n => by
  by_cases hb : b = a
  · subst hb
    rw [h] at e
    cases e
    exact absurd rfl (n _ _)
  · rw [less_ne hb]
    exact e
end
section
variable {K : PySem.W.Frag} {F0 B F : Hp} {σ : L2.St} {H : Hp} {ρ : Env}
theorem Ok.lock [Glo] {i : Nat} (ok : Ok K F0 B F σ H ρ) {kvs : List (List Nat × D)} (hi : ρ[i]? = some (.M kvs)) : ∃ (a : Addr) (kv : List (Key × V)), F a = none ∧ H a = some (.dK kv) ∧ ∀ od, Ok K F0 B (upd F a (.frz od (.dK kv))) σ (upd H a (.frz od (.dK kv))) (ρ.set i (.K kvs)) := by
  obtain ⟨a, kv, ha, hB, hF, hH, hl, hr⟩ := ok.sl i _ hi
  refine ⟨a, kv, hF, hH, fun od => ?_⟩
  have hil : i < ρ.length := (List.getElem?_eq_some_iff.mp hi).1
  have ff : Same F (upd F a (.frz od (.dK kv))) := same_new hF
  have sE : LamX.ExtN B (upd H a (.frz od (.dK kv))) := fun b x e n => by
    rw [upd_ne (fun z => by rw [z] at e; obtain ⟨ps, q⟩ := hB x e; exact n ps q)]
    exact ok.gr.hh b x e n
  have nn : ∀ (j : Nat) (s' : Slot) (c : Addr), i ≠ j → ρ[j]? = some s' → s'.owns = true → σ[j]? = some (some (.ref c)) → c ≠ a := fun j s' c hj e o' e' z => by
    subst z
    exact ok.dj i j _ s' c hj hi e rfl o' ha e'
  refine ⟨⟨sE, fun t => tabs_upd (ok.gr.tb t) hH own_dK, fun t => (ok.gr.nt t).upd (fun _ z => nomatch z), ok.gr.ff.trans ff, fun b z e => ?_, fun b z e => ?_⟩, ok.tb, ok.nt, by simp [ok.len], fun j s' e => ?_, fun j k s1 s2 b n e1 e2 o1 o2 q1 q2 => ?_⟩
  · by_cases hb : b = a
    · subst hb
      rw [upd_same] at e ⊢
      exact e
    · rw [upd_ne hb] at e ⊢
      exact ok.gr.fh b z e
  · by_cases hb : b = a
    · subst hb
      exact .inr hB
    · rw [upd_ne hb] at e
      exact ok.gr.nw b z e
  · by_cases hj : i = j
    · subst hj
      rw [List.getElem?_set_self hil] at e
      cases e
      exact ⟨a, kv, ha, ⟨od, upd_same⟩, hl, RepKs.mono ff _ _ hr⟩
    · rw [List.getElem?_set_ne hj] at e
      have h := ok.sl j s' e
      cases s' with
      | no => trivial
      | d x =>
        obtain ⟨v, h1, h2⟩ := h
        exact ⟨v, h1, Rep.mono ff _ _ h2⟩
      | L xs =>
        obtain ⟨c, vs, h1, h2, h3, h4, h5, h6⟩ := h
        have n := nn j _ c hj e rfl h1
        exact ⟨c, vs, h1, h2, by rw [upd_ne n]; exact h3, by rw [upd_ne n]; exact h4, h5, Reps.mono ff _ _ h6⟩
      | M kvs =>
        obtain ⟨c, vs, h1, h2, h3, h4, h5, h6⟩ := h
        have n := nn j _ c hj e rfl h1
        exact ⟨c, vs, h1, h2, by rw [upd_ne n]; exact h3, by rw [upd_ne n]; exact h4, h5, RepKs.mono ff _ _ h6⟩
      | K kvs =>
        obtain ⟨c, vs, h1, ⟨od, h4⟩, h5, h6⟩ := h
        exact ⟨c, vs, h1, ⟨od, ff _ _ h4⟩, h5, RepKs.mono ff _ _ h6⟩
  · have nj : i ≠ j := fun z => by
      subst z
      rw [List.getElem?_set_self hil] at e1
      cases e1
      cases o1
    have nk : i ≠ k := fun z => by
      subst z
      rw [List.getElem?_set_self hil] at e2
      cases e2
      cases o2
    rw [List.getElem?_set_ne nj] at e1
    rw [List.getElem?_set_ne nk] at e2
    exact ok.dj j k s1 s2 b n e1 e2 o1 o2 q1 q2
theorem Gr.unlock [Glo] {a : Addr} {od : Obj} {kv : List (Key × V)} {F' H' : Hp} (s : Same F H) (hF : F a = none) (hH : H a = some (.dK kv)) (g : Gr (upd F a (.frz od (.dK kv))) (upd H a (.frz od (.dK kv))) F' H') :
    H' a = some (.frz od (.dK kv)) ∧ SameR F' (less F' a) ∧ Gr F H (less F' a) (upd H' a (.dK kv)) := by
  have h1 : H' a = some (.frz od (.dK kv)) := g.hh _ _ upd_same (fun _ z => nomatch z)
  have h2 : F' a = some (.frz od (.dK kv)) := g.ff _ _ upd_same
  refine ⟨h1, less_R h2, fun b x e n => ?_, fun t => tabs_upd (g.tb (tabs_upd t hH own_dK)) h1 own_fK, fun t b ps e => ?_, fun b o e => ?_, fun b o e => ?_, fun b o e => ?_⟩
  · by_cases hb : b = a
    · subst hb
      rw [hH] at e
      cases e
      exact upd_same
    · rw [upd_ne hb]
      exact g.hh b x (by rw [upd_ne hb]; exact e) n
  · by_cases hb : b = a
    · subst hb
      rw [less_at] at e
      cases e
    · rw [less_ne hb] at e
      exact g.nt (t.upd (fun _ z => nomatch z)) b ps e
  · have hb : b ≠ a := ne_of_none e hF
    rw [less_ne hb]
    exact g.ff b o (by rw [upd_ne hb]; exact e)
  · by_cases hb : b = a
    · subst hb
      rw [less_at] at e
      cases e
    · rw [less_ne hb] at e
      rw [upd_ne hb]
      exact g.fh b o e
  · by_cases hb : b = a
    · subst hb
      rw [less_at] at e
      cases e
    · rw [less_ne hb] at e
      rcases g.nw b o e with z | z
      · rw [upd_ne hb] at z
        exact .inl z
      · exact .inr fun x hx => z x (by rw [upd_ne hb]; exact hx)
end
def lockV (i : Nat) (a : Env → R D) : Env → R D := fun ρ => match ρ[i]? with
  | some (.M kvs) => noEr (a (ρ.set i (.K kvs)))
  | _ => .un
section
variable {X : Cx} {E : XK} {K : PySem.W.Frag} {e : Expr} {i : Nat} {te : TE} {a : Env → R D}
theorem ev_lock [Glo] (h : EvE K E te a) : EvE K E (tLockE te) (lockV i a) := by
  intro F0 B F σ H ρ Q ok w
  unfold lockV at w
  split at w
  · rename_i kvs hi
    obtain ⟨p, kv, hF, hH, ok'⟩ := ok.lock hi
    refine ⟨p, _, hH, trivial, fun od => ?_⟩
    cases hc : a (ρ.set i (.K kvs)) with
    | un => rw [hc] at w; exact w.elim
    | er _ => rw [hc] at w; exact w.elim
    | ok d =>
      rw [hc] at w
      refine h F0 B _ σ _ _ _ (ok' od) (W.of_ok hc fun F2 H2 g2 v r => ?_)
      obtain ⟨e1, e2, e3⟩ := Gr.unlock ok.fh hF hH g2
      exact ⟨e1, w _ _ e3 v (Rep.monoR e2 _ _ r)⟩
  · exact w.elim
theorem d_lock [Glo] (i : Nat) (h : DE X K E e te a) : DE X K E e (tLockE te) (lockV i a) := ⟨pe_lock h.pe, ev_lock h.ev⟩
/-- x = [..] walking a dict of one's own -/
theorem s_lockLc [Glo] {st : Stmt} {j : Nat} {wi : TI} {g : TG} {tt : TT} {t : TE} {vs : List Nat} {it : Env → R (List D)} {tgt : D → Env → R Env} {c : Env → R Bool} {el : Env → R D} (i : Nat) (h : DS X K E st (tAsg (tLc wi g tt t vs) (gName j)) (setS j (compV it tgt c el vs))) (he : EvE K E (tLc wi g tt t vs) (compV it tgt c el vs)) :
    DS X K E st (tLock (tAsg (tLc wi g tt t vs) (gName j))) (setS j (lockV i (compV it tgt c el vs))) := by
  refine ⟨ps_lock h.ps, fun F0 B F σ H ρ Dn ok w => ?_⟩
  have q : tLockE (tLc wi g tt t vs) σ H (fun v H' => Dn.nx (σ.set j (some v)) H') := by
    refine ev_lock (i := i) he F0 B F σ H ρ _ ok (W.imp (WS.bind ok.gr w) fun d F1 H1 g1 w1 v r1 => w1 F1 _ H1 ((ok.grow g1).set j r1))
  obtain ⟨d, u, h1, h2, h3⟩ := q
  exact ⟨d, u, h1, h2, fun od => h3 od⟩
theorem s_setLcK [Glo] {pos : Pos} {vs : List Nat} {y : Str} {py : Pos} {elt tg iter : Expr} {ifs : List Expr} {scope : Scope} {wi : TI} {g : TG} {tt : TT} {te : TE} {it : Env → R (List D)} {tgt : D → Env → R Env} {c : Env → R Bool} {el : Env → R D} {spos : Pos} (l : Nat) (own : List (Str × Nat)) (hv : own.map (·.2) = vs) (hc : X.calm = true) (hN : X.N.Nodup)
    (hy : X.N[i]? = some y) (hyl : X.env.scope.names.lookup y = some .local) (hsw : swapsWith (.ListComp elt [⟨tg, iter, ifs, 0⟩] scope pos) (some (.Name y py)) spos.line X.env = pure true)
    (hi : DI X K E tg iter wi it) (ok : BlkOk X.N X.env.scope scope own) (n : NoErG tgt)
    (hg : ∀ (s : Shared) (H : Hp) (C : Addr) (cl : List (Str × Addr)) (fp : List Addr), DG (X.blk s H scope (compEnvC scope cl C X.env) fp) K vs tg g tgt)
    (ht : ∀ (s : Shared) (H : Hp) (C : Addr) (cl : List (Str × Addr)) (fp : List Addr), DTs (X.blk s H scope (compEnvC scope cl C X.env) fp) K E0 ifs tt c)
    (he : ∀ (s : Shared) (H : Hp) (C : Addr) (cl : List (Str × Addr)) (fp : List Addr), DE (X.blk s H scope (compEnvC scope cl C X.env) fp) K E0 elt te el) (hs : ∀ x, foldedSetIterable iter X.env x = pure x := by intro _; rfl) :
    DS X K E (.Assign [.Name y py] (.ListComp elt [⟨tg, iter, ifs, 0⟩] scope pos) spos) (tLock (tAsg (tLc wi g tt te vs) (gName i))) (setS i (lockV l (compV it tgt c el vs))) :=
  s_lockLc l (s_setLc own hv hc hN hy hyl hsw hi ok n hg ht he hs) (ev_lc hi.ev (hg X.s_0 X.H_0 0 [] []).ev n (ht X.s_0 X.H_0 0 [] []).ev (he X.s_0 X.H_0 0 [] []).ev)
/-- the keys of a locked dict -/
def itK (i : Nat) : Env → R (List D) := fun ρ => match ρ[i]? with
  | some (.K kvs) => .ok (kvs.map fun kv => .str kv.1)
  | _ => .un
theorem repks_at {F : Hp} : ∀ {kvs : List (List Nat × D)} {kv : List (Key × V)} {n : Nat} {k : List Nat} {d : D}, RepKs K F kvs kv → kvs[n]? = some (k, d) → ∃ v, kv[n]? = some (Sum.inr ⟨k.toArray⟩, v) ∧ k.length ≤ sizeLine ∧ PyData.strOk ⟨k.toArray⟩ = true
  | [], _, _, _, _, _, e => by simp at e
  | (k0, d0) :: r, kv, 0, k, d, h, e => by
    obtain ⟨v, r', rfl, h0, _, _⟩ := h
    have e : (k0, d0) = (k, d) := by simpa using e
    cases e
    exact ⟨v, rfl, h0⟩
  | (k0, d0) :: r, kv, n + 1, k, d, h, e => by
    obtain ⟨v, r', rfl, _, _, h2⟩ := h
    obtain ⟨u, e1, e2⟩ := repks_at (n := n) (k := k) (d := d) h2 (by simpa using e)
    exact ⟨u, by simpa using e1, e2⟩
theorem itOk_keys [Glo] {F : Hp} {p : Addr} {od : Obj} {kv : List (Key × V)} {kvs : List (List Nat × D)} (h : F p = some (.frz od (.dK kv))) (hl : kv.length ≤ sizeLine) (r : RepKs K F kvs kv) : ItOk K (Itk p od kv) F (kvs.map fun q => .str q.1) := by
  have len := reps_keys r
  refine ⟨by rw [List.length_map, len]; exact hl, fun F1 H s1 s2 => ⟨fun n d e => ?_, ?_⟩⟩
  · rw [List.getElem?_map] at e
    cases hq : kvs[n]? with
    | none => rw [hq] at e; cases e
    | some q =>
      rw [hq] at e
      cases e
      obtain ⟨k, d⟩ := q
      obtain ⟨v, e1, e2, e3⟩ := repks_at r hq
      refine ⟨⟨s2 _ _ (s1 _ _ h), (List.getElem?_eq_some_iff.mp e1).1⟩, fun x H' hy => ?_⟩
      obtain ⟨rfl, k', v', e4, rfl⟩ := hy
      rw [e1] at e4
      cases e4
      exact ⟨F1, Gr.refl s2, rfl, e2, e3⟩
  · exact ⟨s2 _ _ (s1 _ _ h), by rw [List.length_map, len]; exact Nat.le_refl _⟩
theorem i_keys [Glo] {tg : Expr} (i : Nat) (h : PE X e (tVar i)) : DI X K E tg e (iKeys (tVar i)) (itK i) := by
  refine ⟨pi_keys h, fun F0 B F σ H ρ Rr ok w => ?_⟩
  unfold itK at w
  split at w
  · rename_i kvs hi
    obtain ⟨p, kv, h1, ⟨od, h2⟩, h3, h4⟩ := ok.sl i _ hi
    exact ⟨_, h1, p, od, rfl, .inl ⟨kv, ok.fh _ _ h2, W.ok ok.fh w _ (itOk_keys h2 h3 h4)⟩⟩
  · exact w.elim
/-- d[k] of a locked dict -/
def getK (i : Nat) (b : Env → R D) : Env → R D := fun ρ => match ρ[i]? with
  | some (.K kvs) => (b ρ).bind fun y => dGet (.dct kvs) y
  | _ => .un
theorem d_getK [Glo] {ea eb : Expr} {tb : TE} {b : Env → R D} {pos : Pos} (i : Nat) (hu : X.A.units + 1 < cLine) (ha : PE X ea (tVar i)) (hb : DE X K E eb tb b) (hs : NoSl eb := by exact fun _ _ => rfl) : DE X K E (.Subscript ea eb pos) (tDGet (tVar i) tb) (getK i b) := by
  refine ⟨pe_dget hu ha hb.pe hs, fun F0 B F σ H ρ Q ok w => ?_⟩
  unfold getK at w
  split at w
  · rename_i kvs hi
    obtain ⟨p, kv, h1, ⟨od, h2⟩, h3, h4⟩ := ok.sl i _ hi
    refine ⟨_, h1, ?_⟩
    refine hb.ev F0 B F σ H ρ _ ok (W.imp (W.bind w) fun y F2 H2 g2 w2 u r2 => ?_)
    cases y with
    | str k =>
      have w2 : W F2 H2 (PV K Q) (optR (kGet kvs k)) E := w2
      obtain ⟨rfl, k1, k2⟩ := r2
      obtain ⟨d, e, w2⟩ := optR_ok' w2
      obtain ⟨z, e2, r3⟩ := repks_get (RepKs.mono g2.ff _ _ h4) e
      exact ⟨p, z, rfl, .inl ⟨kv, Sum.inr ⟨_⟩, .inr ⟨od, g2.fh _ _ (g2.ff _ _ h2)⟩, rfl, e2.symm⟩, W.ok g2.fh w2 z r3⟩
    | non => exact w2.elim
    | bl _ => exact w2.elim
    | int _ => exact w2.elim
    | tup _ => exact w2.elim
    | lst _ => exact w2.elim
    | dct _ => exact w2.elim
    | scr _ => exact w2.elim
  · exact w.elim
end
end DD

/-! DDL: the end of a law whose own def asks repr: it is called where no repr is under way -/
namespace DD
open PySem PySem.Spec PyProof.Rows L2
/-- as FnOk, but promised only where no repr is under way -/
def FnG (P : Program) (w : World) (K : PySem.W.Frag) (mg : Str → Option Value) (base : Heap) (k : Nat) (f : Addr) (fd : FuncData) (ps : List Str) (sp : Sp) : Prop :=
  ∀ (A : Around) (outer : List PySem.Env) (s : Shared) (H : Hp) (args : Args) (us : List Value) (vs : List V) (Q : VK) (E : XK), A.guards = some [] → Room k A → Env0 P w K mg base A outer s H → BindsTo s fd args (ps.zip us) → Vals vs us → sp vs H Q E →
    codeAny (model P w) A (.call (.ref f) args) (CR (L2.CX P w) outer P w H s Q E) s
theorem fnG_of {P : Program} {w : World} {K : PySem.W.Frag} {mg : Str → Option Value} {base : Heap} {x qual : Str} {st : Stmt} {f : Addr} {fd : FuncData} {N ps : List Str} {k : Nat} {sp : Sp} (F : Fun K x qual st f fd) (S : FnScope N ps (defScope st)) (len : ∀ vs H Q E, sp vs H Q E → vs.length = ps.length)
    (hbody : ∀ (cdv : Value) (A : Around) (outer : List PySem.Env) (s : Shared) (H : Hp) (vs : List V) (Q : VK) (E : XK), (A.deeper (envOfC qual (defScope st) s.heap.objs.size f cdv)).guards = some [] → Room k (A.deeper (envOfC qual (defScope st) s.heap.objs.size f cdv)) → sp vs H Q E →
      ∃ t, PSs (cxOf (L2.CX P w) P w K mg base N qual (defScope st) f cdv A outer s H E) (defBody st) t ∧ t { nx := fun _ H' => Q .non H', rt := Q } (L2.start N vs) H) : FnG P w K mg base (k + 1) f fd ps sp := by
  obtain ⟨oc, od, kV, doc, pm, an, cdv, ct, osl, rfl, lk, hcd⟩ := F.ex
  intro A outer s H args us vs Q E hg hr e0 hb r hsp
  have keep : ∀ b o, base.get? b = some o → s.heap.get? b = some o := fun b o e => (e0.bs b o e).1
  have KX : K.In s.heap := e0.mod.kin.keeps keep
  have lim : s.heap.NoLimit := e0.mod.nolimit.keeps keep
  refine codeAny_call_function hr.depth (KX _ _ lk) rfl S.co S.gen rfl (PySem.W.codeRec_of KX hcd) (hb _ _ _ _ ?_)
  refine wpAny_newFunctionEnv_cells S.kind (fun y hy => ?_) fun env he s1 z => ?_
  · rcases S.par y.1 (List.of_mem_zip hy).1 with q | q
    · exact .inl q
    · exact .inr ⟨q, PySem.W.cellsFrom_some _ _ _ (.inl q)⟩
  subst he
  refine ⟨lim.keeps z.toInCall.keep, codeAny_func ?_⟩
  obtain ⟨t, ht, hq⟩ := hbody cdv A outer s H vs Q E (by simpa [Around.deeper] using hg) (hr.deeper _) hsp
  have I := inv_start (CX := L2.CX P w) (E := E) S hr.hd e0 (len _ _ _ _ hsp) r z
  refine wpAny_mono (ht.run [] s1 _ H _ I hq) (fun fl s' hs => ?_) fun e s' hs => hs
  cases fl with
  | ret u =>
    obtain ⟨v, σ', H', J, rv, q⟩ := hs
    exact ⟨v, H', J.os, J.bare, J.base, J.hok, rv, q⟩
  | next =>
    obtain ⟨σ', H', J, q⟩ := hs
    exact ⟨V.non, H', J.os, J.bare, J.base, J.hok, rfl, q⟩
  | brk =>
    obtain ⟨_, _, _, q⟩ := hs
    exact False.elim q
  | cont =>
    obtain ⟨_, _, _, q⟩ := hs
    exact False.elim q
/-- what stands in the first heap: the tables cs, perhaps the script's list -/
def firstH (T : List Addr) (x : Option (Addr × HO)) : Hp := fun b => match x with
  | some (a, o) => if b = a then some o else if b ∈ T then some (.tbl #[]) else none
  | none => if b ∈ T then some (.tbl #[]) else none
section
variable {P : Program} {w : World} {K : PySem.W.Frag} {mg mb : Str → Option Value} {k : Nat} {fa a : Addr} {cs : List (Addr × Addr)} {fd : FuncData} {x : Str} {sp : Sp} {s₁ : Shared}
variable {ns : List V}
structure Head (K : PySem.W.Frag) (mg mb : Str → Option Value) (cs : List (Addr × Addr)) (s₁ : Shared) : Prop where
  kx : K.In s₁.heap
  ns : s₁.heap.Ns mainGlobals mg
  bn : s₁.heap.Ns builtinsNs mb
  bb : ∀ x : Str, x ≠ "__name__" → mb x = bootBuiltins x
  lim : s₁.heap.NoLimit
  gen : s₁.gens = #[]
  tab : ∀ p ∈ cs, s₁.heap.get? p.2 = some { cls := .none, data := .fields #[] }
  nt : ∀ p ∈ cs, K.lookup p.2 = none
  hd : ∀ p ∈ cs, PySem.W.CodeHd s₁.heap p.1 p.2
  bm : ∃ (bm : Addr) (ob : Obj), mg "__builtins__" = some (.ref bm) ∧ bm ≠ builtinsNs ∧ s₁.heap.get? bm = some ob ∧ ob.cls = .type "module" ∧ ob.dict = some builtinsNs ∧ ob.data = .plain
/-- a heap of tracked things H, of which each is a table or the script's list, laid over the head -/
theorem Head.run (h : Head K mg mb cs s₁) {H : Hp} (seq : ∀ b, H b ≠ none → b ∈ cs.map (·.2) ∨ (K.lookup b = none ∧ ∃ vs n c, s₁.heap.get? b = some { cls := c, data := .seq vs n })) (tbl : ∀ p ∈ cs, H p.2 = some (.tbl #[]))
    (fz : ∀ b, b ∉ cs.map (·.2) → H b = none ∨ ∃ o xs, H b = some (.frz o (.lst xs))) (hok : HOk P w H s₁.heap) (hS : SqL K H a ns) (hr : Room k callerA)
    (F : ∀ base : Heap, K.In base → base.Ns mainGlobals mg → (∀ p ∈ cs, LamX.TabB base mg p.1 p.2) → FnG P w K mg base k fa fd [x] sp) (hbind : ∀ (s : Shared) (u : Value), BindsTo s fd ⟨[u], []⟩ [(x, u)])
    (hsp : sp [.ref a] H (fun v _ => v = .bl true) fun _ _ _ => False) :
    codeAny (model P w) callerA (.call (.ref fa) ⟨[.ref a], []⟩) (fun r s' => r = .ok (.ret (.bool true)) ∧ OldK s₁.heap s'.heap ∧ s'.os = s₁.os ∧ AllBare s'.gens) s₁ := by
  have isT : ∀ b : Addr, b ∈ cs.map (·.2) → s₁.heap.get? b = some { cls := .none, data := .fields #[] } := fun b hb => by
    obtain ⟨p, hp, rfl⟩ := List.mem_map.mp hb
    exact h.tab p hp
  -- what is neither a sequence nor a table is not tracked
  have free : ∀ {b : Addr} {o : Obj}, s₁.heap.get? b = some o → (∀ vs n, o.data ≠ .seq vs n) → o.data ≠ .fields #[] → H b = none := fun {b o} e n1 n2 => by
    cases q : H b with
    | none => rfl
    | some u =>
      exfalso
      rcases seq b (by rw [q]; simp) with z | ⟨_, vs, n, c, z⟩
      · rw [isT b z] at e
        cases e
        exact n2 rfl
      · rw [z] at e
        cases e
        exact n1 _ _ rfl
  have nsK : ∀ {b : Addr} {m : Str → Option Value}, s₁.heap.Ns b m → (hidT s₁.heap H).Ns b m := fun {b m} ⟨o, es, ep, e, d, r⟩ => ⟨o, es, ep, hidT_get e (free e (fun _ _ z => by rw [d] at z; cases z) fun z => by rw [d] at z; cases z), d, r⟩
  have hKb : K.In (hidT s₁.heap H) := fun b o e => hidT_get (h.kx b o e) (by
    cases q : H b with
    | none => rfl
    | some u =>
      exfalso
      rcases seq b (by rw [q]; simp) with z | ⟨z, _⟩
      · obtain ⟨p, hp, rfl⟩ := List.mem_map.mp z
        rw [h.nt p hp] at e
        cases e
      · rw [z] at e
        cases e)
  have TB : ∀ p ∈ cs, LamX.TabB (hidT s₁.heap H) mg p.1 p.2 := fun p hp => by
    refine ⟨?_, ?_, fun z => ?_⟩
    · obtain ⟨o, us, file, tf, flags, tg, inF, text, tt, e1, r1, r2, r3, r⟩ := h.hd p hp
      refine ⟨o, us, file, tf, flags, tg, inF, text, tt, hidT_get e1 (free e1 (fun _ _ z => by rw [r2] at z; cases z) fun z => ?_), r1, r2, r3, r⟩
      rw [r2] at z
      cases z
      simp at r3
    · obtain ⟨bm, ob, b1, b2, b3, b4, b5, b6⟩ := h.bm
      refine ⟨bm, ob, b1, b2, fun q => ?_, fun q => ?_, hidT_get b3 (free b3 (fun _ _ z => by rw [b6] at z; cases z) fun z => by rw [b6] at z; cases z), b4, b5, b6⟩
      · obtain ⟨o, es, ep, e, d, _⟩ := h.ns
        rw [q, e] at b3
        cases b3
        rw [d] at b6
        cases b6
      · rw [q, h.tab p hp] at b3
        cases b3
        cases b6
    · obtain ⟨o, es, ep, e, d, _⟩ := h.ns
      rw [z, h.tab p hp] at e
      cases e
      cases d
  have lim := h.lim
  have e0 : Env0 P w K mg (hidT s₁.heap H) callerA [] s₁ H := ⟨rfl, ⟨hKb, nsK h.ns, ⟨mb, nsK h.bn, h.bb⟩, let ⟨mc, h1, h2⟩ := lim; ⟨mc, nsK h1, h2⟩⟩, fun b o e => of_hidT e, Nat.le_of_eq (hidT_size _ _), trivial, fun b hb => absurd (show b ∈ ([] : List Addr) from hb) (by simp), hok, .of_eq h.gen⟩
  refine codeAny_mono (F _ hKb (nsK h.ns) TB callerA [] s₁ H ⟨[.ref a], []⟩ [.ref a] [.ref a] _ _ rfl hr e0 (hbind s₁ (.ref a)) (.cons rfl .nil) hsp) fun r s' q => ?_
  cases r with
  | error e => exact (cx_end q).elim
  | ok fl =>
    cases fl with
    | next => exact False.elim q
    | brk => exact False.elim q
    | cont => exact False.elim q
    | ret u =>
      obtain ⟨v, H', os, bare, un, hok', r', rfl⟩ := q
      obtain rfl : u = Value.bool true := r'
      have old : ∀ b o, b ∉ cs.map (·.2) → s₁.heap.get? b = some o → s'.heap.get? b = some o := fun b o nb e => by
        rcases fz b nb with z | ⟨ob, xs, z⟩
        · exact un.keep b o e z (by intro y; exact absurd (show b ∈ ([] : List Addr) from y) (by simp)) (by simp)
        · have z1 := (hok b _ z).1
          have z2 := (hok' b _ (un.frzs b ob _ z)).1
          rw [e] at z1
          cases z1
          exact z2
      have grown : ∀ p ∈ cs, ∃ more : Array Value, s'.heap.get? p.2 = some { cls := .none, data := .fields more } := fun p hp => by
        obtain ⟨more, z⟩ := un.tbls p.2 #[] (tbl p hp)
        exact ⟨_, hok' p.2 _ z⟩
      refine ⟨rfl, ⟨fun b o e => ?_, fun b o e => ?_⟩, os, bare⟩
      · by_cases hb : b ∈ cs.map (·.2)
        · obtain ⟨p, hp, rfl⟩ := List.mem_map.mp hb
          obtain ⟨more, hm⟩ := grown p hp
          rw [h.tab p hp] at e
          cases e
          exact .inr (.inl ⟨((h.hd p hp).tab (h.tab p hp)).isCodeTable, rfl, #[], more, rfl, by rw [Array.empty_append]; exact hm⟩)
        · exact .inl (old b o hb e)
      · by_cases hb : b ∈ cs.map (·.2)
        · obtain ⟨p, hp, rfl⟩ := List.mem_map.mp hb
          obtain ⟨more, hm⟩ := grown p hp
          exact ⟨_, hm⟩
        · exact ⟨o, old b o hb e⟩
/-- the head is left: the script's list is tracked, or the head's own -/
theorem Head.call (h : Head K mg mb cs s₁) {vs : List Value} {ns : List Int} (ha : s₁.heap.get? a = some { cls := .type "list", data := .seq vs.toArray }) (hi : IntsAre vs ns) (hl : ns.length ≤ sizeLine) (hr : Room k callerA)
    (F : ∀ base : Heap, K.In base → base.Ns mainGlobals mg → (∀ p ∈ cs, LamX.TabB base mg p.1 p.2) → FnG P w K mg base k fa fd [x] sp) (hbind : ∀ (s : Shared) (u : Value), BindsTo s fd ⟨[u], []⟩ [(x, u)])
    (hsp : ∀ H : Hp, (∀ p ∈ cs, H p.2 = some (.tbl #[])) → SqL K H a (ns.map V.int) → sp [.ref a] H (fun v _ => v = .bl true) fun _ _ _ => False) :
    codeAny (model P w) callerA (.call (.ref fa) ⟨[.ref a], []⟩) (fun r s' => r = .ok (.ret (.bool true)) ∧ OldK s₁.heap s'.heap ∧ s'.os = s₁.os ∧ AllBare s'.gens) s₁ := by
  have rv := vals_ints hi
  have lenV := hi.length
  have isT : ∀ b : Addr, b ∈ cs.map (·.2) → s₁.heap.get? b = some { cls := .none, data := .fields #[] } := fun b hb => by
    obtain ⟨p, hp, rfl⟩ := List.mem_map.mp hb
    exact h.tab p hp
  have aT : a ∉ cs.map (·.2) := fun z => by
    have q := isT a z
    rw [ha] at q
    have z' : Data.seq vs.toArray _ = Data.fields #[] := congrArg Obj.data (Option.some.inj q)
    cases z'
  have at_ : ∀ {b : Addr} {o : HO} {y : Option (Addr × HO)}, firstH (cs.map (·.2)) y b = some o → (b ∈ cs.map (·.2) ∧ o = .tbl #[]) ∨ y = some (b, o) := fun {b o y} e => by
    cases y with
    | none =>
      have e : (if b ∈ cs.map (·.2) then some (HO.tbl #[]) else none) = some o := e
      split at e
      · rename_i z
        cases e
        exact .inl ⟨z, rfl⟩
      · cases e
    | some q =>
      obtain ⟨c, u⟩ := q
      have e : (if b = c then some u else if b ∈ cs.map (·.2) then some (HO.tbl #[]) else none) = some o := e
      by_cases z : b = c
      · rw [if_pos z] at e
        cases e
        exact .inr (by rw [z])
      · rw [if_neg z] at e
        by_cases y : b ∈ cs.map (·.2)
        · rw [if_pos y] at e
          cases e
          exact .inl ⟨y, rfl⟩
        · rw [if_neg y] at e
          cases e
  cases hk : K.lookup a with
  | some o =>
    have e := h.kx a o hk
    rw [ha] at e
    cases e
    have tb : ∀ p ∈ cs, firstH (cs.map (·.2)) none p.2 = some (.tbl #[]) := fun p hp => if_pos (List.mem_map.mpr ⟨p, hp, rfl⟩)
    have sq : SqL K (firstH (cs.map (·.2)) none) a (ns.map V.int) := .inr ⟨_, vs.toArray, _, hk, rfl, rfl, rfl, by rw [List.size_toArray, lenV]; exact hl, by simpa using rv⟩
    refine h.run (fun b n => ?_) tb (fun b nb => .inl (if_neg nb)) (fun b u e => ?_) sq hr F hbind (hsp _ tb sq)
    · cases e : firstH (cs.map (·.2)) none b with
      | none => exact absurd e n
      | some o =>
        rcases at_ e with z | z
        · exact .inl z.1
        · cases z
    · rcases at_ e with ⟨z, rfl⟩ | z
      · exact isT b z
      · cases z
  | none =>
    have tb : ∀ p ∈ cs, firstH (cs.map (·.2)) (some (a, .frz { cls := .type "list", data := .seq vs.toArray } (.lst (ns.map V.int)))) p.2 = some (.tbl #[]) := fun p hp =>
      (if_neg (show ¬ p.2 = a from fun z => aT (by rw [← z]; exact List.mem_map.mpr ⟨p, hp, rfl⟩))).trans (if_pos (List.mem_map.mpr ⟨p, hp, rfl⟩))
    have sq : SqL K (firstH (cs.map (·.2)) (some (a, .frz { cls := .type "list", data := .seq vs.toArray } (.lst (ns.map V.int))))) a (ns.map V.int) := .inl (.inr ⟨_, if_pos rfl⟩)
    refine h.run (fun b n => ?_) tb (fun b nb => ?_) (fun b u e => ?_) sq hr F hbind (hsp _ tb sq)
    · cases e : firstH (cs.map (·.2)) (some (a, .frz { cls := .type "list", data := .seq vs.toArray } (.lst (ns.map V.int)))) b with
      | none => exact absurd e n
      | some o =>
        rcases at_ e with z | z
        · exact .inl z.1
        · cases z
          exact .inr ⟨hk, _, _, _, ha⟩
    · by_cases hb : b = a
      · exact .inr ⟨_, _, if_pos hb⟩
      · exact .inl ((if_neg hb).trans (if_neg nb))
    · rcases at_ e with ⟨z, rfl⟩ | z
      · exact isT b z
      · cases z
        exact ⟨ha, by rw [List.length_map]; exact hl, vs, _, rv, ha⟩
end
/-! ### the law's own def, where no repr is under way -/
section
variable {P : Program} {w : World} {K : PySem.W.Frag} {mg : Str → Option Value} {base : Heap}
theorem fng_mk [Glo] {x qual : Str} {st : Stmt} {f : Addr} {fd : FuncData} {N ps : List Str} {k : Nat} {φ : Env → R Out} (F : Fun K x qual st f fd) (S : FnScope N ps (defScope st))
    (body : ∀ (cdv : Value) (A : Around) (outer : List PySem.Env) (s : Shared) (H : Hp) (E : XK), (A.deeper (envOfC qual (defScope st) s.heap.objs.size f cdv)).guards = some [] → Room k (A.deeper (envOfC qual (defScope st) s.heap.objs.size f cdv)) → ∃ t, DSs (bodyX P w K mg base N qual (defScope st) f cdv A outer s H E) K E (defBody st) t φ) :
    FnG P w K mg base (k + 1) f fd ps (spD K ps.length (runF φ N.length)) := by
  refine fnG_of F S (fun vs H Q E h => ?_) (fun cdv A outer s H vs Q E hg hr h => ?_)
  · obtain ⟨F', ds, h1, _, _, _, h2, _⟩ := h
    rw [← Reps.length h2]
    exact h1
  · obtain ⟨F', ds, h1, h0, hn, h2, h3, h4⟩ := h
    obtain ⟨t, b⟩ := body cdv A outer s H E hg hr
    exact ⟨t, b.ps, b.ev F' H F' (L2.start N vs) H (initE N.length ds) _ (start_ok h0 hn h2 h3) (fin_ok h4)⟩
end
def LawAtG (l : PySem.W.OpenLaw) (w : World) (K : PySem.W.Frag) (k n : Nat) (x : Str) (mg : Str → Option Value) (fa : Addr) (h : Heap) : Prop :=
  ∃ (fd : FuncData) (cs : List (Addr × Addr)) (sp : Sp), (∀ p ∈ cs, h.get? p.2 = some { cls := .none, data := .fields #[] }) ∧ (∀ p ∈ cs, K.lookup p.2 = none) ∧ (∀ p ∈ cs, PySem.W.CodeHd h p.1 p.2) ∧ (∀ (s : Shared) (u : Value), BindsTo s fd ⟨[u], []⟩ [(x, u)]) ∧
    (∀ (H : Hp) (a : Addr) (ns : List Int), ns.length ≤ n → (∀ p ∈ cs, H p.2 = some (.tbl #[])) → SqL K H a (ns.map V.int) → sp [.ref a] H (fun v _ => v = .bl true) fun _ _ _ => False) ∧
    ∀ base : Heap, K.In base → base.Ns mainGlobals mg → (∀ p ∈ cs, LamX.TabB base mg p.1 p.2) → FnG l.prog w K mg base k fa fd [x] sp
theorem lawAtG [Glo] {l : PySem.W.OpenLaw} {w : World} {K : PySem.W.Frag} {k : Nat} {mg : Str → Option Value} {fa : Addr} {h : Heap} {fd : FuncData} {f : List D → R D} (cs : List (Addr × Addr)) (h0 : ∀ p ∈ Glo.T, p.1 ∈ cs.map (·.2))
    (hT : ∀ p ∈ cs, h.get? p.2 = some { cls := .none, data := .fields #[] }) (nT : ∀ p ∈ cs, K.lookup p.2 = none) (hC : ∀ p ∈ cs, PySem.W.CodeHd h p.1 p.2)
    (hb : ∀ (s : Shared) (u : Value), BindsTo s fd ⟨[u], []⟩ [("script", u)])
    (law : ∀ ns : List Int, ns.length ≤ 63 → f [.scr ns] = .ok (.bl true))
    (F : ∀ base : Heap, K.In base → base.Ns mainGlobals mg → (∀ p ∈ cs, LamX.TabB base mg p.1 p.2) → FnG l.prog w K mg base k fa fd ["script"] (spD K 1 f)) : LawAtG l w K k 63 "script" mg fa h :=
  ⟨fd, cs, spD K 1 f, hT, nT, hC, hb, fun H a ns hl hH hS => law_end (fun p hp => by
    obtain ⟨z, hz, e⟩ := List.mem_map.mp (h0 p hp)
    exact LamX.TabS.nil (by rw [← e]; exact hH z hz)) hl hS (law ns hl), F⟩
theorem lawAtG0 [Glo] {l : PySem.W.OpenLaw} {w : World} {K : PySem.W.Frag} {k : Nat} {mg : Str → Option Value} {fa : Addr} {h : Heap} {fd : FuncData} {f : List D → R D} (h0 : Glo.T = []) (hb : ∀ (s : Shared) (u : Value), BindsTo s fd ⟨[u], []⟩ [("script", u)])
    (law : ∀ ns : List Int, ns.length ≤ 63 → f [.scr ns] = .ok (.bl true))
    (F : ∀ base : Heap, K.In base → base.Ns mainGlobals mg → FnG l.prog w K mg base k fa fd ["script"] (spD K 1 f)) : LawAtG l w K k 63 "script" mg fa h :=
  lawAtG [] (fun p hp => by rw [h0] at hp; cases hp) (fun _ hp => by cases hp) (fun _ hp => by cases hp) (fun _ hp => by cases hp) hb law fun base h1 h2 _ => F base h1 h2
theorem walk_G {l : PySem.W.OpenLaw} {n k : Nat} {q : Program} {loose : List Str} {XP : (Str → Option Value) → Heap → Prop} {YP : World → Heap → Prop} {d : DefRec} {K : Params → PySem.W.Frag} {x : Str}
    (hn : l.most = some n) (hn2 : n ≤ sizeLine) (hdf : d.params.defaults = []) (hr : Room k callerA) (hY : ∀ (w : World) (h : Heap), YP w h → (K w.params).In h)
    (F : ∀ (w : World) (mg : Str → Option Value) (fa : Addr) (h : Heap), (K w.params).In h → h.Ns mainGlobals mg → mg d.name = some (.ref fa) →
      (∀ (y : Str) (f : Addr), ((recsOf q).any fun e => e.name == y) = true → mg y = some (.ref f) → OwnT (K w.params) f h) → LawAtG l w (K w.params) k n x mg fa h) :
    PySem.W.WalkO q loose XP YP l.row.toRowW d [] (fun f vs => PySem.call f vs) := by
  refine Att.attach_callB hn hdf fun w s₀ s₁ mg mb fa o pm cd doc a vs ns G Y ho hd hcd hmg hobj hints hlen hbits hg => ?_
  have KX := hY w _ Y
  have own : ∀ (y : Str) (f : Addr), ((recsOf q).any fun e => e.name == y) = true → mg y = some (.ref f) → OwnT (K w.params) f s₁.heap := fun y f hrec hy c P o1 fd1 e dd vs1 sl k1 k2 k3 k4 k5 => by
    obtain ⟨dL, hm, hn1⟩ := List.any_eq_true.mp hrec
    obtain ⟨a', o', fd', c', P', h1, h2, h3, h4, h5, h6⟩ := G.T.tab dL hm
    have hd := PySem.W.CodeHd.of h5 h6
    rw [beq_iff_eq.mp hn1, hy] at h1
    cases h1
    rw [KX _ _ k1] at h2
    cases h2
    rw [k2] at h3
    cases h3
    rw [k3] at h4
    cases h4
    obtain ⟨⟨oc, vc, e1, _, e3, e4⟩, hP⟩ := h6
    rw [KX _ _ k4] at e1
    cases e1
    cases e3
    rw [k5] at e4
    cases e4
    exact ⟨hP, hd⟩
  obtain ⟨fd, cs, sp, hT, nT, C, hb, hsp, hF⟩ := F w mg fa _ KX G.T.g hmg own
  exact Head.call ⟨KX, G.T.g, G.T.b, G.T.builtins, G.T.nolimit, hg, hT, nT, C, G.T.bmain⟩ hobj hints (Nat.le_trans hlen hn2) hr hF hb fun H hH hS => hsp H a ns hlen hH hS
end DD

/-! DDM: repr of data -/
namespace DD
open PySem PySem.Spec PyProof.Rows L2
def rRep (K : PySem.W.Frag) : List V → Hp → VK → Prop := fun vs H Q => ∃ (a : Addr) (d : PyData), vs = [V.ref a] ∧ Dp K H (.ref a) d ∧ d.showable = true ∧ d.hasDict = false ∧ d.shown.length ≤ sizeLine ∧ d.depth ≤ 62 ∧ Q (.str d.shown) H
theorem cr_repr {X : Cx} (hg : X.A.guards = some []) (hu : X.A.units + 64 < cLine) : CallR X (.builtin "repr") (rRep X.K) := by
  intro pins s σ H xs us Q I r h
  obtain ⟨a, d, rfl, hd, hs, hn, hz, hp, q⟩ := h
  obtain ⟨u, rfl, e⟩ := vals1 r
  obtain rfl : u = Value.ref a := e
  obtain ⟨as, rd⟩ := Dp.reads I d _ _ hd rfl
  exact repr_of_reads' rd hs (PyData.noDict_hsm hn) hg (by omega) (fun _ _ e => e) (fun h' u tk hk => ⟨.str _, H, I.kept (t' := tk) fun b ob e => hk b ob e, ⟨_, rfl⟩, q⟩) hz
mutual
def D.shows : D → Bool
  | .non => true
  | .bl _ => true
  | .int i => decide (i.natAbs < 18446744073709551616)
  | .str _ => true
  | .tup xs => D.showss xs
  | .lst xs => D.showss xs
  | _ => false
def D.showss : List D → Bool
  | [] => true
  | x :: xs => D.shows x && D.showss xs
end
mutual
/-- at most so many signs are written -/
def D.bulk : D → Nat
  | .non => 4
  | .bl _ => 5
  | .int _ => 1921
  | .str s => 10 * s.length + 2
  | .tup xs => D.bulks xs + 4
  | .lst xs => D.bulks xs + 4
  | _ => 0
def D.bulks : List D → Nat
  | [] => 0
  | x :: xs => D.bulk x + 2 + D.bulks xs
end
theorem strOk_all {x : Str} : PyData.strOk x = true ↔ ∀ c ∈ x.cps.toList, c < 1114112 := by
  unfold PyData.strOk
  rw [← Array.all_toList, List.all_eq_true]
  simp
theorem strOk_plus {x y : Str} (hx : PyData.strOk x = true) (hy : PyData.strOk y = true) : PyData.strOk (x ++ y) = true := by
  rw [strOk_all] at *
  intro c hc
  have : c ∈ x.cps.toList ++ y.cps.toList := by
    have e : (x ++ y).cps = x.cps ++ y.cps := rfl
    rw [e, Array.toList_append] at hc
    exact hc
  rcases List.mem_append.mp this with h | h
  · exact hx c h
  · exact hy c h
theorem char_lt (c : Char) : c.toNat < 1114112 := by
  have := c.valid
  rcases this with h | ⟨_, h⟩
  · show c.val.toNat < _
    omega
  · exact h
theorem strOk_of (s : String) : PyData.strOk (Str.ofString s) = true := by
  rw [strOk_all]
  intro c hc
  rw [Str.ofString_eq_toList] at hc
  obtain ⟨z, _, rfl⟩ := List.mem_map.mp (show c ∈ s.toList.map Char.toNat by simpa using hc)
  exact char_lt z
theorem reprChar_ok (q c : Nat) (hq : q < 1114112) (hc : c < 1114112) : ∀ z ∈ Builtin.Str.reprChar q c, z < 1114112 := by
  intro z hz
  have hex : ∀ w, z ∈ (let d := (Nat.toDigits 16 c).map Char.toNat; List.replicate (w - d.length) 48 ++ d) → z < 1114112 := fun w h => by
    rcases List.mem_append.mp h with h | h
    · rw [List.eq_of_mem_replicate h]
      decide
    · obtain ⟨y, _, rfl⟩ := List.mem_map.mp h
      exact char_lt y
  unfold Builtin.Str.reprChar at hz
  simp only at hz
  split at hz
  · simp at hz
    rcases hz with rfl | rfl
    · decide
    · exact hc
  split at hz
  · simp at hz
    rcases hz with rfl | rfl <;> decide
  split at hz
  · simp at hz
    rcases hz with rfl | rfl <;> decide
  split at hz
  · simp at hz
    rcases hz with rfl | rfl <;> decide
  split at hz
  · simp at hz
    rw [hz]
    exact hc
  split at hz
  · rcases List.mem_append.mp hz with h | h
    · simp at h
      rcases h with rfl | rfl <;> decide
    · exact hex 2 h
  split at hz
  · rcases List.mem_append.mp hz with h | h
    · simp at h
      rcases h with rfl | rfl <;> decide
    · exact hex 4 h
  · rcases List.mem_append.mp hz with h | h
    · simp at h
      rcases h with rfl | rfl <;> decide
    · exact hex 8 h
theorem fold_ok (q : Nat) (hq : q < 1114112) : ∀ (l : List Nat) (acc : Array Nat), (∀ c ∈ l, c < 1114112) → (∀ c ∈ acc.toList, c < 1114112) → ∀ c ∈ (l.foldl (fun out c => out ++ (Builtin.Str.reprChar q c).toArray) acc).toList, c < 1114112
  | [], acc, _, h => h
  | x :: l, acc, h1, h2 => by
    rw [List.foldl_cons]
    refine fold_ok q hq l _ (fun c hc => h1 c (List.mem_cons_of_mem _ hc)) fun c hc => ?_
    rw [Array.toList_append] at hc
    rcases List.mem_append.mp hc with z | z
    · exact h2 c z
    · exact reprChar_ok q x hq (h1 x List.mem_cons_self) c (by simpa using z)
theorem strOk_repr {x : Str} (h : PyData.strOk x = true) : PyData.strOk (reprText x) = true := by
  have hq : reprQuote x < 1114112 := by
    unfold reprQuote
    split <;> decide
  rw [strOk_all] at *
  intro c hc
  unfold reprText at hc
  simp only [Array.toList_push] at hc
  rcases List.mem_append.mp hc with z | z
  · rw [← Array.foldl_toList] at z
    exact fold_ok _ hq _ _ h (fun y hy => by
      have : y = reprQuote x := by simpa using hy
      rw [this]
      exact hq) c z
  · have : c = reprQuote x := by simpa using z
    rw [this]
    exact hq
theorem strOk_join : ∀ (ts : List Str), (∀ t ∈ ts, PyData.strOk t = true) → PyData.strOk (Str.join ", " ts) = true
  | [], _ => by decide +kernel
  | [x], h => h x List.mem_cons_self
  | x :: y :: r, h => by
    show PyData.strOk (x ++ ", " ++ Str.join ", " (y :: r)) = true
    exact strOk_plus (strOk_plus (h x List.mem_cons_self) (by decide +kernel)) (strOk_join (y :: r) fun t ht => h t (List.mem_cons_of_mem _ ht))
theorem strOk_tup (ts : List Str) (h : ∀ t ∈ ts, PyData.strOk t = true) : PyData.strOk (tupleText ts) = true := by
  unfold tupleText
  refine strOk_plus (strOk_plus (by decide +kernel) (strOk_join ts h)) ?_
  split <;> decide +kernel
theorem strOk_from : ∀ (ts : List Str) (k : Nat) (acc : Str), PyData.strOk acc = true → (∀ t ∈ ts, PyData.strOk t = true) → PyData.strOk (textFrom k acc ts) = true
  | [], _, _, h, _ => h
  | t :: r, k, acc, h, g => by
    show PyData.strOk (textFrom (k + 1) (acc ++ (if k > 0 then ", " else "" : String) ++ t) r) = true
    refine strOk_from r _ _ (strOk_plus (strOk_plus h ?_) (g t List.mem_cons_self)) fun z hz => g z (List.mem_cons_of_mem _ hz)
    split <;> decide +kernel
theorem strOk_list (ts : List Str) (h : ∀ t ∈ ts, PyData.strOk t = true) : PyData.strOk (listText ts) = true := by
  unfold listText
  exact strOk_plus (strOk_from ts 0 _ (by decide +kernel) h) (by decide +kernel)
mutual
theorem shown_ok : ∀ (d : PyData), d.canLay0 = true → PyData.strOk d.shown = true
  | .none, _ => by decide +kernel
  | .bool b, _ => by cases b <;> decide +kernel
  | .int i, _ => strOk_of _
  | .str x, h => strOk_repr (by simpa [PyData.canLay0] using h)
  | .list xs, h => strOk_list _ (showns_ok xs (by simpa [PyData.canLay0] using h))
  | .tuple xs, h => strOk_tup _ (showns_ok xs (by simpa [PyData.canLay0] using h))
  | .dict _, h => by simp [PyData.canLay0] at h
theorem showns_ok : ∀ (xs : List PyData), PyData.canLayAll0 xs = true → ∀ t ∈ PyData.shownAll xs, PyData.strOk t = true
  | [], _, t, ht => by simp [PyData.shownAll] at ht
  | x :: xs, h, t, ht => by
    have h : x.canLay0 = true ∧ PyData.canLayAll0 xs = true := by simpa [PyData.canLayAll0] using h
    have ht : t = x.shown ∨ t ∈ PyData.shownAll xs := by simpa [PyData.shownAll] using ht
    rcases ht with rfl | ht
    · exact shown_ok x h.1
    · exact showns_ok xs h.2 t ht
end
theorem piled_cons' (t : Str) (ts : List Str) : piled (t :: ts) = t.length + 2 + piled ts := by simp [piled]
theorem tupText_le (ts : List Str) : (tupleText ts).length ≤ piled ts + 4 := by
  unfold tupleText
  rw [strLen_append, strLen_append]
  have e1 : ((("(" : String) : Str)).length = 1 := rfl
  have e3 : (((if ts.length == 1 then ",)" else ")" : String) : Str)).length ≤ 2 := by split <;> decide
  rw [e1]
  by_cases h : ts = []
  · subst h
    have : (Str.join ", " []).length = 0 := rfl
    rw [this]
    omega
  · have := join_length_add ts h
    omega
theorem textFrom_le : ∀ (ts : List Str) (k : Nat) (acc : Str), (textFrom k acc ts).length ≤ acc.length + piled ts
  | [], k, acc => by
    show acc.length ≤ _
    omega
  | t :: r, k, acc => by
    have h := textFrom_le r (k + 1) (acc ++ (if k > 0 then ", " else "" : String) ++ t)
    have e : (acc ++ (if k > 0 then ", " else "" : String) ++ t).length ≤ acc.length + 2 + t.length := by
      rw [strLen_append, strLen_append]
      have : (((if k > 0 then ", " else "" : String) : Str)).length ≤ 2 := by split <;> decide
      omega
    rw [piled_cons']
    show (textFrom (k + 1) _ r).length ≤ _
    omega
theorem listText_le (ts : List Str) : (listText ts).length ≤ piled ts + 4 := by
  unfold listText
  rw [strLen_append]
  have := textFrom_le ts 0 "["
  have e1 : ((("[" : String) : Str)).length = 1 := rfl
  have e2 : ((("]" : String) : Str)).length = 1 := rfl
  omega
section
variable {K : PySem.W.Frag} {F : Hp}
theorem nat_log {n : Nat} (h : n < 18446744073709551616) : n.log2 < 1920 := by
  by_cases h0 : n = 0
  · subst h0
    decide
  · have := (Nat.log2_lt h0 (k := 64)).mpr (by simpa using h)
    omega
mutual
theorem shown_len : ∀ (x : D) (v : V) (n : Nat), D.plain x n = true → D.shows x = true → Rep K F x v → (toPy x).showable = true ∧ (toPy x).shown.length ≤ D.bulk x
  | .non, _, _, _, _, _ => ⟨rfl, by decide⟩
  | .bl b, _, _, _, _, _ => ⟨rfl, by cases b <;> decide⟩
  | .int i, _, _, _, h, _ => by
    have h : i.natAbs < 18446744073709551616 := by simpa [D.shows] using h
    have l := nat_log h
    refine ⟨by simpa [toPy, PyData.showable] using l, int_text_len_1921 l⟩
  | .str s, v, _, _, _, r => by
    obtain ⟨_, _, r⟩ := r
    refine ⟨rfl, ?_⟩
    have := StrLaws.reprText_len (⟨s.toArray⟩ : Str) fun c hc => Nat.lt_trans (strOk_all.mp r c hc) (by decide)
    rw [str_len] at this
    exact this
  | .tup xs, v, n, p, h, r => by
    obtain ⟨a, vs, _, _, _, r⟩ := r
    cases n with
    | zero => simp [D.plain] at p
    | succ n =>
      obtain ⟨h1, h2⟩ := showns_len xs vs n (by simpa using p) (by simpa [D.shows] using h) r
      refine ⟨by simpa [toPy, PyData.showable] using h1, ?_⟩
      have := tupText_le (PyData.shownAll (toPys xs))
      show (tupleText (PyData.shownAll (toPys xs))).length ≤ D.bulks xs + 4
      omega
  | .lst xs, v, n, p, h, r => by
    obtain ⟨a, vs, _, _, _, r⟩ := r
    cases n with
    | zero => simp [D.plain] at p
    | succ n =>
      obtain ⟨h1, h2⟩ := showns_len xs vs n (by simpa using p) (by simpa [D.shows] using h) r
      refine ⟨by simpa [toPy, PyData.showable] using h1, ?_⟩
      have := listText_le (PyData.shownAll (toPys xs))
      show (listText (PyData.shownAll (toPys xs))).length ≤ D.bulks xs + 4
      omega
  | .dct _, _, n, p, _, _ => by cases n <;> simp [D.plain] at p
  | .scr _, _, n, p, _, _ => by cases n <;> simp [D.plain] at p
theorem showns_len : ∀ (xs : List D) (vs : List V) (n : Nat), D.plains xs n = true → D.showss xs = true → Reps K F xs vs → PyData.showableAll (toPys xs) = true ∧ piled (PyData.shownAll (toPys xs)) ≤ D.bulks xs
  | [], _, _, _, _, _ => ⟨rfl, by decide⟩
  | x :: xs, vs, n, p, h, r => by
    obtain ⟨v, u, rfl, r1, r2⟩ := r
    have p : D.plain x n = true ∧ D.plains xs n = true := by simpa using p
    have h : D.shows x = true ∧ D.showss xs = true := by simpa [D.showss] using h
    obtain ⟨h1, h2⟩ := shown_len x v n p.1 h.1 r1
    obtain ⟨h3, h4⟩ := showns_len xs u n p.2 h.2 r2
    refine ⟨by simp [toPys, PyData.showableAll, h1, h3], ?_⟩
    show piled ((toPy x).shown :: PyData.shownAll (toPys xs)) ≤ D.bulk x + 2 + D.bulks xs
    rw [piled_cons']
    omega
end
end
def reprL (x : D) : List Nat := (toPy x).shown.cps.toList
def dRepr : List D → R D
  | [.tup xs] => if D.plain (.tup xs) 60 = true ∧ D.shows (.tup xs) = true ∧ D.bulk (.tup xs) ≤ line then .ok (.str (reprL (.tup xs))) else .un
  | _ => .un
theorem cd_repr [Glo] {K : PySem.W.Frag} : CallD K (rRep K) dRepr := by
  intro F H xs vs Q s r E w
  unfold dRepr at w
  split at w
  · rename_i xs
    obtain ⟨⟨h1, h2, h3⟩, w⟩ := of_ite w
    obtain ⟨v, rfl, rv⟩ := reps1 r
    obtain ⟨k1, k2⟩ := shown_len _ v 60 h1 h2 rv
    obtain ⟨c1, c2⟩ := shaped_py _ v 60 h1 rv
    have dp := rep_dp s _ v 60 h1 rv
    have rv' := rv
    obtain ⟨a, us, rfl, _⟩ := rv'
    have ln : (toPy (.tup xs)).shown.length ≤ sizeLine := by rw [← line_eq]; exact Nat.le_trans k2 h3
    refine ⟨a, _, rfl, dp, k1, PyData.hasDict_of_canLay _ c1, ln, by omega, ?_⟩
    refine W.ok s w _ ⟨?_, ?_, ?_⟩
    · unfold reprL
      rfl
    · exact ln
    · exact shown_ok _ c1
  · exact w.elim
/-- its data is as it was -/
theorem dRepr_ok {xs : List D} (h1 : D.plain (.tup xs) 60 = true) (h2 : D.shows (.tup xs) = true) (h3 : D.bulk (.tup xs) ≤ line) : dRepr [.tup xs] = .ok (.str (reprL (.tup xs))) := if_pos ⟨h1, h2, h3⟩
theorem bulks_le {B : Nat} : ∀ {xs : List D}, (∀ x ∈ xs, D.bulk x ≤ B) → D.bulks xs ≤ xs.length * (B + 2)
  | [], _ => by simp [D.bulks]
  | x :: xs, h => by
    have h1 := h x List.mem_cons_self
    have h2 := bulks_le fun y hy => h y (List.mem_cons_of_mem _ hy)
    simp only [D.bulks, List.length_cons]
    rw [Nat.succ_mul]
    omega
theorem showss_all : ∀ {xs : List D}, (∀ x ∈ xs, D.shows x = true) → D.showss xs = true
  | [], _ => rfl
  | x :: xs, h => by
    simp only [D.showss, h x List.mem_cons_self, showss_all fun y hy => h y (List.mem_cons_of_mem _ hy), Bool.and_self]
end DD

/-! DDN: text.split(sign), str of a number, int of two figures -/
namespace DD
open PySem PySem.Spec PyProof.Rows L2
def splL (c : Nat) : List Nat → List (List Nat)
  | [] => [[]]
  | x :: xs => if x = c then [] :: splL c xs else (x :: (splL c xs).headD []) :: (splL c xs).tail
/-- with the sign between them -/
def gluL (c : Nat) : List (List Nat) → List Nat
  | [] => []
  | [p] => p
  | p :: q :: r => p ++ c :: gluL c (q :: r)
theorem splL_ne (c : Nat) : ∀ s, splL c s ≠ []
  | [] => by simp [splL]
  | x :: xs => by
    unfold splL
    split <;> simp
theorem splL_cons {c : Nat} (s : List Nat) : ∃ p r, splL c s = p :: r := by
  cases h : splL c s with
  | nil => exact absurd h (splL_ne c s)
  | cons p r => exact ⟨p, r, rfl⟩
theorem glu_spl (c : Nat) : ∀ s, gluL c (splL c s) = s
  | [] => rfl
  | x :: xs => by
    have ih := glu_spl c xs
    obtain ⟨p, r, e⟩ := splL_cons (c := c) xs
    unfold splL
    rw [e] at ih ⊢
    split
    · rename_i h
      show [] ++ c :: gluL c (p :: r) = _
      rw [ih, h]
      rfl
    · cases r with
      | nil =>
        show x :: p = _
        have ih : p = xs := ih
        rw [ih]
      | cons q r =>
        show (x :: p) ++ c :: gluL c (q :: r) = _
        have ih : p ++ c :: gluL c (q :: r) = xs := ih
        rw [List.cons_append, ih]
theorem spl_free (c : Nat) : ∀ s, ∀ p ∈ splL c s, c ∉ p
  | [], p, h => by
    have : p = [] := by simpa [splL] using h
    rw [this]
    simp
  | x :: xs, p, h => by
    have ih := spl_free c xs
    obtain ⟨q, r, e⟩ := splL_cons (c := c) xs
    unfold splL at h
    rw [e] at ih h
    split at h
    · rcases List.mem_cons.mp h with z | z
      · rw [z]; simp
      · exact ih p z
    · rename_i n
      rcases List.mem_cons.mp h with z | z
      · rw [z]
        intro m
        rcases List.mem_cons.mp m with y | y
        · exact n y.symm
        · exact ih q List.mem_cons_self y
      · exact ih p (List.mem_cons_of_mem _ z)
/-- one text is parted in one way -/
theorem glu_inj (c : Nat) : ∀ (ps qs : List (List Nat)), ps ≠ [] → qs ≠ [] → (∀ p ∈ ps, c ∉ p) → (∀ q ∈ qs, c ∉ q) → gluL c ps = gluL c qs → ps = qs
  | [], _, h, _, _, _, _ => absurd rfl h
  | _, [], _, h, _, _, _ => absurd rfl h
  | [p], [q], _, _, _, _, e => by
    have e : p = q := e
    rw [e]
  | [p], q :: q2 :: qs, _, _, hp, _, e => by
    have e : p = q ++ c :: gluL c (q2 :: qs) := e
    exact absurd (by rw [e]; simp) (hp p List.mem_cons_self)
  | p :: p2 :: ps, [q], _, _, _, hq, e => by
    have e : p ++ c :: gluL c (p2 :: ps) = q := e
    exact absurd (by rw [← e]; simp) (hq q List.mem_cons_self)
  | p :: p2 :: ps, q :: q2 :: qs, _, _, hp, hq, e => by
    have e : p ++ c :: gluL c (p2 :: ps) = q ++ c :: gluL c (q2 :: qs) := e
    have key : ∀ (a b u v : List Nat), c ∉ a → c ∉ b → a ++ c :: u = b ++ c :: v → a = b ∧ u = v := fun a => by
      induction a with
      | nil =>
        intro b u v _ hb e
        cases b with
        | nil => exact ⟨rfl, by simpa using e⟩
        | cons y b =>
          have : c = y := by simpa using (List.cons.inj e).1
          exact absurd (by rw [this]; simp) hb
      | cons x a ih =>
        intro b u v ha hb e
        cases b with
        | nil =>
          have : x = c := by simpa using (List.cons.inj e).1
          exact absurd (by rw [this]; simp) ha
        | cons y b =>
          obtain ⟨e1, e2⟩ := List.cons.inj e
          obtain ⟨h1, h2⟩ := ih b u v (fun z => ha (List.mem_cons_of_mem _ z)) (fun z => hb (List.mem_cons_of_mem _ z)) e2
          exact ⟨by rw [e1, h1], h2⟩
    obtain ⟨h1, h2⟩ := key p q _ _ (hp p List.mem_cons_self) (hq q List.mem_cons_self) e
    rw [h1, glu_inj c (p2 :: ps) (q2 :: qs) (by simp) (by simp) (fun z hz => hp z (List.mem_cons_of_mem _ hz)) (fun z hz => hq z (List.mem_cons_of_mem _ hz)) h2]
theorem spl_glu (c : Nat) (ps : List (List Nat)) (h : ps ≠ []) (hp : ∀ p ∈ ps, c ∉ p) : splL c (gluL c ps) = ps :=
  glu_inj c _ _ (splL_ne c _) h (spl_free c _) hp (glu_spl c _)
theorem join_glu (c : Nat) : ∀ ps : List Str, (Str.join ⟨#[c]⟩ ps).cps.toList = gluL c (ps.map fun p => p.cps.toList)
  | [] => rfl
  | [p] => rfl
  | p :: q :: r => by
    have ih := join_glu c (q :: r)
    show (p ++ ⟨#[c]⟩ ++ Str.join ⟨#[c]⟩ (q :: r)).cps.toList = p.cps.toList ++ c :: gluL c ((q :: r).map fun p => p.cps.toList)
    rw [← ih]
    have e : (p ++ (⟨#[c]⟩ : Str) ++ Str.join ⟨#[c]⟩ (q :: r)).cps = p.cps ++ #[c] ++ (Str.join ⟨#[c]⟩ (q :: r)).cps := rfl
    rw [e, Array.toList_append, Array.toList_append]
    simp
theorem split_eq (a : List Nat) (c : Nat) : Txt.split (mkS a) ⟨#[c]⟩ = (splL c a).map mkS := by
  have ne : Txt.split (mkS a) ⟨#[c]⟩ ≠ [] := fun e => by
    have := split_pos (mkS a) ⟨#[c]⟩
    rw [e] at this
    simp at this
  have e1 := StrLaws.join_split (mkS a) ⟨#[c]⟩
  have e2 := congrArg (fun s : Str => s.cps.toList) e1
  simp only [tl_mkS] at e2
  rw [join_glu] at e2
  have e3 : (Txt.split (mkS a) ⟨#[c]⟩).map (fun p => p.cps.toList) = splL c a := by
    refine glu_inj c _ _ (by simpa using ne) (splL_ne c a) (fun p hp => ?_) (spl_free c a) (by rw [e2, glu_spl])
    obtain ⟨q, hq, rfl⟩ := List.mem_map.mp hp
    exact StrLaws.split_free (mkS a) c q hq
  rw [← e3, List.map_map]
  have : (mkS ∘ fun p : Str => p.cps.toList) = id := funext fun p => mkS_tl p
  rw [this, List.map_id]
theorem spl_mem {c z : Nat} {s p : List Nat} (h : p ∈ splL c s) (hz : z ∈ p) : z ∈ s := by
  have e := glu_spl c s
  rw [← e]
  have : ∀ ps : List (List Nat), p ∈ ps → z ∈ gluL c ps := fun ps => by
    induction ps with
    | nil => intro h; cases h
    | cons q r ih =>
      intro h
      cases r with
      | nil =>
        rw [List.mem_singleton.mp h] at hz
        exact hz
      | cons q2 r =>
        show z ∈ q ++ c :: gluL c (q2 :: r)
        rcases List.mem_cons.mp h with y | y
        · rw [← y]
          exact List.mem_append_left _ hz
        · exact List.mem_append_right _ (List.mem_cons_of_mem _ (ih y))
  exact this _ h
theorem spl_len (c : Nat) : ∀ s, (splL c s).length ≤ s.length + 1
  | [] => by simp [splL]
  | x :: xs => by
    have ih := spl_len c xs
    unfold splL
    split
    · simp; omega
    · simp; omega
theorem glu_piece (c : Nat) : ∀ (ps : List (List Nat)) (p : List Nat), p ∈ ps → p.length ≤ (gluL c ps).length
  | [], _, h => by cases h
  | [q], p, h => by rw [List.mem_singleton.mp h]; exact Nat.le_refl _
  | q :: q2 :: r, p, h => by
    show p.length ≤ (q ++ c :: gluL c (q2 :: r)).length
    rw [List.length_append, List.length_cons]
    rcases List.mem_cons.mp h with y | y
    · rw [y]; omega
    · have := glu_piece c (q2 :: r) p y
      omega
theorem spl_piece {c : Nat} {s p : List Nat} (h : p ∈ splL c s) : p.length ≤ s.length := by
  have := glu_piece c _ p h
  rw [glu_spl] at this
  exact this
def dSplit : D → List D → R D
  | .str a, [.str [c]] => if a.length + 2 ≤ line then .ok (.lst ((splL c a).map .str)) else .un
  | _, _ => .un
section
variable {X : Cx} {K : PySem.W.Frag} {E : XK}
theorem md_split [Glo] : MtD K (fun x xs H Q => ∃ a b, x = .str a ∧ xs = [.str b] ∧ (b.length == 0) = false ∧ a.length + 2 ≤ sizeLine ∧ rNewStrs (Txt.split a b) H Q) dSplit := by
  intro F H x xs v vs Q s rx rs E w
  unfold dSplit at w
  split at w
  · rename_i a c
    obtain ⟨hl, w⟩ := of_ite w
    obtain ⟨rfl, h1, h2⟩ := rx
    obtain ⟨u, rfl, rfl, h3, h4⟩ := reps1 rs
    refine ⟨_, _, rfl, rfl, rfl, by rw [str_len, ← line_eq]; exact hl, fun p hp => ?_⟩
    have e : Txt.split (⟨a.toArray⟩ : Str) ⟨[c].toArray⟩ = (splL c a).map mkS := split_eq a c
    rw [e]
    have ok : ∀ k ∈ splL c a, k.length ≤ sizeLine ∧ PyData.strOk ⟨k.toArray⟩ = true := fun k hk => ⟨Nat.le_trans (spl_piece hk) h1, strOk_sub h2 fun z hz => spl_mem hk hz⟩
    have r := reps_strs (K := K) (F := F) ok
    refine w _ _ (Gr.new s hp) _ (rep_lst_new (s.free hp) r ?_)
    rw [List.length_map, List.length_map, ← line_eq]
    have := spl_len c a
    omega
  · exact w.elim
/-! str of a number -/
def txtI (i : Int) : List Nat := (Str.ofString (toString i)).cps.toList
def dStr : List D → R D
  | [.int i] => if i.natAbs < 18446744073709551616 then .ok (.str (txtI i)) else .un
  | _ => .un
theorem cd_str [Glo] : CallD K (fun xs H Q => ∃ i, xs = [.int i] ∧ i.natAbs.log2 < 1920 ∧ Q (.str (toString i)) H) dStr := by
  intro F H xs vs Q s r E w
  unfold dStr at w
  split at w
  · rename_i i
    obtain ⟨h, w⟩ := of_ite w
    obtain ⟨v, rfl, rfl⟩ := reps1 r
    refine ⟨i, rfl, nat_log h, W.ok s w _ ⟨?_, ?_, ?_⟩⟩
    · unfold txtI
      rfl
    · exact int_text_fits (nat_log h)
    · exact strOk_of _
  · exact w.elim
/-! int of two figures at the most -/
def figV : List Nat → Option Int
  | [c] => if 48 ≤ c ∧ c ≤ 57 then some ((c : Int) - 48) else none
  | [c, d] => if (48 ≤ c ∧ c ≤ 57) ∧ 48 ≤ d ∧ d ≤ 57 then some (10 * ((c : Int) - 48) + ((d : Int) - 48)) else none
  | _ => none
def dInt2 : List D → R D
  | [.str s] => match figV s with
    | some n => .ok (.int n)
    | none => .un
  | _ => .un
theorem intText_two : ∀ i j : Fin 10, PySem.intText? ⟨#[48 + i.1, 48 + j.1]⟩ = some (10 * (i.1 : Int) + j.1) := by decide +kernel
theorem figV_ok {s : List Nat} {n : Int} (h : figV s = some n) : PySem.intText? ⟨s.toArray⟩ = some n ∧ s.length ≤ 2 := by
  unfold figV at h
  split at h
  · rename_i c
    split at h
    · rename_i hc
      cases h
      exact ⟨intText_fig c hc, by simp⟩
    · cases h
  · rename_i c d
    split at h
    · rename_i hc
      cases h
      obtain ⟨⟨c1, c2⟩, d1, d2⟩ := hc
      have := intText_two ⟨c - 48, by omega⟩ ⟨d - 48, by omega⟩
      have e1 : 48 + (c - 48) = c := by omega
      have e2 : 48 + (d - 48) = d := by omega
      simp only [e1, e2] at this
      refine ⟨?_, by simp⟩
      rw [show ([c, d] : List Nat).toArray = #[c, d] from rfl, this]
      congr 1
      omega
    · cases h
  · cases h
theorem cd_int2 [Glo] : CallD K (fun xs H Q => rInt1 xs H Q ∨ rIntS xs H Q) dInt2 := by
  intro F H xs vs Q s r E w
  unfold dInt2 at w
  split at w
  · rename_i z
    obtain ⟨v, rfl, rfl, h1, h2⟩ := reps1 r
    cases hf : figV z with
    | none => rw [hf] at w; exact w.elim
    | some n =>
      rw [hf] at w
      obtain ⟨e1, e2⟩ := figV_ok hf
      refine .inr ⟨_, _, rfl, e1, ?_, W.ok s w _ rfl⟩
      rw [str_len]
      omega
  · exact w.elim
end
@[simp] theorem dSplit_ok {a : List Nat} {c : Nat} (h : a.length ≤ 100000) : dSplit (.str a) [.str [c]] = .ok (.lst ((splL c a).map .str)) := by
  show (if a.length + 2 ≤ line then _ else _) = _
  rw [if_pos (by unfold line; omega)]
theorem dStr_ok {i : Int} (h : i.natAbs < 18446744073709551616) : dStr [.int i] = .ok (.str (txtI i)) := if_pos h
end DD

/-! DDO: zip of a list and a tuple -/
namespace DDZM
open PySem
open PySem.Sem (wp)
section
variable {prog : Program} {w : World} {A : Around} {E : Value → Shared → Prop} {s : Shared}
theorem zipM_next_item {z TI TO i1 i2 l1 l2 : Addr} {k1 k2 : Nat} {xs ys : Array Value} {x y a b : Value} {Q : Value → Shared → Prop} (D : ZipApart z TI TO i1 i2 l1 l2)
    (hz : IsZip s.heap z TI TO .none) (hTI : IsPair s.heap TI (.ref i1) (.ref i2)) (hTO : IsPair s.heap TO a b)
    (h1 : s.heap.IsListIter i1 l1 k1) (h2 : s.heap.IsTupleIter i2 l2 k2) (hl1 : s.heap.IsList l1 xs) (hl2 : s.heap.IsTuple l2 ys) (hx : xs[k1]? = some x) (hy : ys[k2]? = some y)
    (hQ : ∀ h', IsZip h' z TI TO (rawInt s.heap.objs.size) → IsPair h' TO x y → h'.IsListIter i1 l1 (k1 + 1) → h'.IsTupleIter i2 l2 (k2 + 1) → IsPair h' s.heap.objs.size x y → h'.objs.size = s.heap.objs.size + 1 →
      (∀ c o, c ≠ z → c ≠ TO → c ≠ i1 → c ≠ i2 → s.heap.get? c = some o → h'.get? c = some o) → Q (.ref s.heap.objs.size) { s with heap := h' }) :
    wpAny (model prog w) A (Builtin.«zip.__next__» ⟨[.ref z], []⟩) (fun fin s' => ∃ v, fin = .done (.ret v) ∧ Q v s') E s := by
  show wpAny _ _ (field (.ref z) 2 >>= _) _ _ _
  refine wpAny_bind (wpAny_field hz rfl (x := .bool false) rfl ?_)
  show wpAny _ _ (field (.ref z) 3 >>= _) _ _ _
  refine wpAny_bind (wpAny_field hz rfl (x := .ref TI) rfl ?_)
  refine wpAny_bind (wpAny_seqItems hTI rfl ?_)
  show wpAny _ _ (Builtin.SmallTypes.ownedTupleIsFree (.ref z) >>= _) _ _ _
  refine wpAny_bind ?_
  unfold Builtin.SmallTypes.ownedTupleIsFree
  refine wpAny_bind (wpAny_field hz rfl (x := .none) rfl (wpAny_pure ?_))
  simp only [if_true]
  refine wpAny_bind (wpAny_rule ?_)
  refine wpAny_bind (wpAny_field hz rfl (x := .ref TO) rfl ?_)
  refine wpAny_bind (wpAny_setField_rec hz (by simp) fun h₁ hz₁ hs₁ => ?_)
  replace hz₁ : IsZip h₁ z TI TO .ellipsis := hz₁
  refine wpAny_bind ?_
  simp only [List.zipIdx_cons, List.zipIdx_nil, List.forIn_cons, List.forIn_nil]

  refine wpAny_bind (wpAny_bind (wpAny_onRaise ?_))
  show wpAny _ _ (Builtin.SmallTypes.nextOf (.ref i1) >>= _) _ _ _
  refine wpAny_bind (wpAny_nextOf_list_item (h1.extBut hs₁.extBut D.i1z) (hl1.extBut hs₁.extBut D.l1z) hx fun h₂ h1₂ hs₂ => wpAny_pure ?_)
  have hTO₂ : IsPair h₂ TO a b := hs₂.extBut _ _ D.TOi1 (hs₁.extBut _ _ D.TOz hTO)
  refine wpAny_bind (wpAny_seqItems hTO₂ rfl ?_)
  refine wpAny_bind (wpAny_updateSeq_pair hTO₂ fun h₃ hTO₃ hs₃ => ?_)
  replace hTO₃ : IsPair h₃ TO x b := hTO₃
  refine wpAny_bind (wpAny_letGo (wpAny_pure ?_))

  refine wpAny_bind (wpAny_bind (wpAny_onRaise ?_))
  show wpAny _ _ (Builtin.SmallTypes.nextOf (.ref i2) >>= _) _ _ _
  refine wpAny_bind (RZ.nextOf_tuple_item (((h2.extBut hs₁.extBut D.i2z).extBut hs₂.extBut D.i12.symm).extBut hs₃.extBut D.TOi2.symm)
    (((hl2.extBut hs₁.extBut D.l2z).extBut hs₂.extBut D.l2i1).extBut hs₃.extBut D.l2TO) hy fun h₄ h2₄ hs₄ => wpAny_pure ?_)
  have hTO₄ : IsPair h₄ TO x b := hs₄.extBut _ _ D.TOi2 hTO₃
  refine wpAny_bind (wpAny_seqItems hTO₄ rfl ?_)
  refine wpAny_bind (wpAny_updateSeq_pair hTO₄ fun h₅ hTO₅ hs₅ => ?_)
  replace hTO₅ : IsPair h₅ TO x y := hTO₅
  refine wpAny_bind (wpAny_letGo (wpAny_pure (wpAny_pure ?_)))

  refine wpAny_bind (wpAny_seqItems hTO₅ rfl ?_)
  refine wpAny_bind (wpAny_newTuple ?_)
  have hsz : h₅.objs.size = s.heap.objs.size := by rw [hs₅.1, hs₄.1, hs₃.1, hs₂.1, hs₁.1]
  have hz₅ : IsZip h₅ z TI TO .ellipsis := hs₅.extBut _ _ D.TOz.symm (hs₄.extBut _ _ D.i2z.symm (hs₃.extBut _ _ D.TOz.symm (hs₂.extBut _ _ D.i1z.symm hz₁)))
  have hk₅ : ∀ c o, c ≠ z → c ≠ TO → c ≠ i1 → c ≠ i2 → s.heap.get? c = some o → h₅.get? c = some o := fun c o c1 c2 c3 c4 e =>
    hs₅.extBut _ _ c2 (hs₄.extBut _ _ c4 (hs₃.extBut _ _ c2 (hs₂.extBut _ _ c3 (hs₁.extBut _ _ c1 e))))
  have h1₅ : h₅.IsListIter i1 l1 (k1 + 1) := ((h1₂.extBut hs₃.extBut D.TOi1.symm).extBut hs₄.extBut D.i12).extBut hs₅.extBut D.TOi1.symm
  have h2₅ : h₅.IsTupleIter i2 l2 (k2 + 1) := h2₄.extBut hs₅.extBut D.TOi2.symm
  have hzlt : z < h₅.objs.size := Heap.lt_size hz₅
  have hTOlt : TO < h₅.objs.size := Heap.lt_size hTO₅
  have hi1lt : i1 < h₅.objs.size := by obtain ⟨_, e, _⟩ := h1₅; exact Heap.lt_size e
  have hi2lt : i2 < h₅.objs.size := by obtain ⟨_, e, _⟩ := h2₅; exact Heap.lt_size e
  show wpAny _ _ (Builtin.SmallTypes.ownedTupleHandOut (.ref z) (.ref h₅.objs.size) >>= _) _ _ _
  refine wpAny_bind ?_
  unfold Builtin.SmallTypes.ownedTupleHandOut
  have hz₆ : IsZip (h₅.push { cls := .type "tuple", data := .seq #[x, y] }) z TI TO .ellipsis := Heap.get?_push_of_some _ hz₅
  refine wpAny_bind (wpAny_setField_rec hz₆ (by simp) fun h₇ hz₇ hs₇ => ?_)
  replace hz₇ : IsZip h₇ z TI TO (rawInt h₅.objs.size) := hz₇
  refine wpAny_setField_rec hz₇ (by simp) fun h₈ hz₈ hs₈ => ?_
  replace hz₈ : IsZip h₈ z TI TO (rawInt h₅.objs.size) := hz₈
  have up : ∀ c o, c ≠ z → h₅.get? c = some o → h₈.get? c = some o := fun c o c1 e => hs₈.extBut _ _ c1 (hs₇.extBut _ _ c1 (Heap.get?_push_of_some _ e))
  have hT₈ : IsPair h₈ h₅.objs.size x y := hs₈.extBut _ _ (Nat.ne_of_gt hzlt) (hs₇.extBut _ _ (Nat.ne_of_gt hzlt) (Heap.get?_push_size _ rfl))
  have hz8 : h₈.objs.size = h₅.objs.size + 1 := by rw [hs₈.1, hs₇.1, Heap.size_push]
  rw [hsz] at hz₈ hT₈ hz8
  refine wpAny_pure ⟨_, rfl, ?_⟩
  show Q (.ref h₅.objs.size) _
  rw [hsz]
  exact hQ h₈ hz₈ (up _ _ D.TOz hTO₅) (h1₅.at fun o e => up _ o D.i1z e) (h2₅.at fun o e => up _ o D.i2z e) hT₈ hz8 fun c o c1 c2 c3 c4 e => up c o c1 (hk₅ c o c1 c2 c3 c4 e)

theorem zipM_next_end {z TI TO i1 i2 l1 l2 : Addr} {k1 k2 : Nat} {xs ys : Array Value} {a b : Value} {Q : Fin → Shared → Prop} (hh : A.handled = none) (D : ZipApart z TI TO i1 i2 l1 l2)
    (hz : IsZip s.heap z TI TO .none) (hTI : IsPair s.heap TI (.ref i1) (.ref i2)) (hTO : IsPair s.heap TO a b)
    (h1 : s.heap.IsListIter i1 l1 k1) (h2 : s.heap.IsTupleIter i2 l2 k2) (hl1 : s.heap.IsList l1 xs) (hl2 : s.heap.IsTuple l2 ys) (hend : xs[k1]? = none ∨ ys[k2]? = none)
    (hE : ∀ h' e, (∀ c o, c ≠ z → c ≠ TO → c ≠ i1 → c ≠ i2 → s.heap.get? c = some o → h'.get? c = some o) → (∃ o, h'.get? e = some o ∧ o.cls = .type "StopIteration") → E (.ref e) { s with heap := h' }) :
    wpAny (model prog w) A (Builtin.«zip.__next__» ⟨[.ref z], []⟩) Q E s := by
  show wpAny _ _ (field (.ref z) 2 >>= _) _ _ _
  refine wpAny_bind (wpAny_field hz rfl (x := .bool false) rfl ?_)
  show wpAny _ _ (field (.ref z) 3 >>= _) _ _ _
  refine wpAny_bind (wpAny_field hz rfl (x := .ref TI) rfl ?_)
  refine wpAny_bind (wpAny_seqItems hTI rfl ?_)
  show wpAny _ _ (Builtin.SmallTypes.ownedTupleIsFree (.ref z) >>= _) _ _ _
  refine wpAny_bind ?_
  unfold Builtin.SmallTypes.ownedTupleIsFree
  refine wpAny_bind (wpAny_field hz rfl (x := .none) rfl (wpAny_pure ?_))
  simp only [if_true]
  refine wpAny_bind (wpAny_rule ?_)
  refine wpAny_bind (wpAny_field hz rfl (x := .ref TO) rfl ?_)
  refine wpAny_bind (wpAny_setField_rec hz (by simp) fun h₁ hz₁ hs₁ => ?_)
  replace hz₁ : IsZip h₁ z TI TO .ellipsis := hz₁
  refine wpAny_bind ?_
  simp only [List.zipIdx_cons, List.zipIdx_nil, List.forIn_cons, List.forIn_nil]
  refine wpAny_bind (wpAny_bind (wpAny_onRaise ?_))
  show wpAny _ _ (Builtin.SmallTypes.nextOf (.ref i1) >>= _) _ _ _
  cases hx : xs[k1]? with
  | none =>
    refine wpAny_bind (wpAny_nextOf_list_end hh (h1.extBut hs₁.extBut D.i1z) (hl1.extBut hs₁.extBut D.l1z) hx fun h₂ e hs₂ he => ?_)
    obtain ⟨oe, hoe, hce⟩ := he
    have hz₂ : IsZip h₂ z TI TO .ellipsis := hs₂ _ _ D.i1z.symm hz₁
    have hez : e ≠ z := fun x => by subst x; rw [hz₂] at hoe; cases hoe; simp at hce
    refine wpAny_setField_rec hz₂ (by simp) fun h₃ _ hs₃ => hE h₃ e (fun c o c1 _ c3 _ x => hs₃.extBut _ _ c1 (hs₂ _ _ c3 (hs₁.extBut _ _ c1 x))) ⟨oe, hs₃.extBut _ _ hez hoe, hce⟩
  | some x =>
    have hy : ys[k2]? = none := by rcases hend with h | h; rw [hx] at h; cases h; exact h
    refine wpAny_bind (wpAny_nextOf_list_item (h1.extBut hs₁.extBut D.i1z) (hl1.extBut hs₁.extBut D.l1z) hx fun h₂ h1₂ hs₂ => wpAny_pure ?_)
    have hTO₂ : IsPair h₂ TO a b := hs₂.extBut _ _ D.TOi1 (hs₁.extBut _ _ D.TOz hTO)
    refine wpAny_bind (wpAny_seqItems hTO₂ rfl ?_)
    refine wpAny_bind (wpAny_updateSeq_pair hTO₂ fun h₃ hTO₃ hs₃ => ?_)
    refine wpAny_bind (wpAny_letGo (wpAny_pure ?_))
    refine wpAny_bind (wpAny_bind (wpAny_onRaise ?_))
    show wpAny _ _ (Builtin.SmallTypes.nextOf (.ref i2) >>= _) _ _ _
    refine wpAny_bind (RZ.nextOf_tuple_end hh (((h2.extBut hs₁.extBut D.i2z).extBut hs₂.extBut D.i12.symm).extBut hs₃.extBut D.TOi2.symm)
      (((hl2.extBut hs₁.extBut D.l2z).extBut hs₂.extBut D.l2i1).extBut hs₃.extBut D.l2TO) hy fun h₄ e hs₄ he => ?_)
    obtain ⟨oe, hoe, hce⟩ := he
    have hz₄ : IsZip h₄ z TI TO .ellipsis := hs₄ _ _ D.i2z.symm (hs₃.extBut _ _ D.TOz.symm (hs₂.extBut _ _ D.i1z.symm hz₁))
    have hez : e ≠ z := fun x => by subst x; rw [hz₄] at hoe; cases hoe; simp at hce
    refine wpAny_setField_rec hz₄ (by simp) fun h₅ _ hs₅ => hE h₅ e (fun c o c1 c2 c3 c4 x => hs₅.extBut _ _ c1 (hs₄ _ _ c4 (hs₃.extBut _ _ c2 (hs₂.extBut _ _ c3 (hs₁.extBut _ _ c1 x))))) ⟨oe, hs₅.extBut _ _ hez hoe, hce⟩

theorem pyNext_zipM_item {z TI TO i1 i2 l1 l2 : Addr} {k1 k2 : Nat} {xs ys : Array Value} {x y a b : Value} {Q : Option Value → Shared → Prop} (D : ZipApart z TI TO i1 i2 l1 l2)
    (hz : IsZip s.heap z TI TO .none) (hTI : IsPair s.heap TI (.ref i1) (.ref i2)) (hTO : IsPair s.heap TO a b)
    (h1 : s.heap.IsListIter i1 l1 k1) (h2 : s.heap.IsTupleIter i2 l2 k2) (hl1 : s.heap.IsList l1 xs) (hl2 : s.heap.IsTuple l2 ys) (hx : xs[k1]? = some x) (hy : ys[k2]? = some y)
    (hQ : ∀ h', IsZip h' z TI TO (rawInt s.heap.objs.size) → IsPair h' TO x y → h'.IsListIter i1 l1 (k1 + 1) → h'.IsTupleIter i2 l2 (k2 + 1) → IsPair h' s.heap.objs.size x y → h'.objs.size = s.heap.objs.size + 1 →
      (∀ c o, c ≠ z → c ≠ TO → c ≠ i1 → c ≠ i2 → s.heap.get? c = some o → h'.get? c = some o) → Q (some (.ref s.heap.objs.size)) { s with heap := h' }) :
    wpAny (model prog w) A (pyNext (.ref z)) Q E s := by
  have hT : s.TypeIs (.ref z) "zip" := ⟨_, hz, rfl⟩
  unfold pyNext
  exact wpAny_bind (wpAny_attempt (wpAny_callSpecial?_slot (name := Str.ofString "__next__") hT F.slot_zip_next
    (wpAny_call_entry F.slot_zip_next hT F.entry_zip_next
      (zipM_next_item D hz hTI hTO h1 h2 hl1 hl2 hx hy fun h' a1 a2 a3 a4 a5 a6 a7 => wpAny_pure (hQ h' a1 a2 a3 a4 a5 a6 a7)) (F.args_zip_next_1 _))))

theorem pyNext_zipM_end {z TI TO i1 i2 l1 l2 : Addr} {k1 k2 : Nat} {xs ys : Array Value} {a b : Value} {Q : Option Value → Shared → Prop} (hh : A.handled = none) (D : ZipApart z TI TO i1 i2 l1 l2)
    (hz : IsZip s.heap z TI TO .none) (hTI : IsPair s.heap TI (.ref i1) (.ref i2)) (hTO : IsPair s.heap TO a b)
    (h1 : s.heap.IsListIter i1 l1 k1) (h2 : s.heap.IsTupleIter i2 l2 k2) (hl1 : s.heap.IsList l1 xs) (hl2 : s.heap.IsTuple l2 ys) (hend : xs[k1]? = none ∨ ys[k2]? = none)
    (hQ : ∀ h', (∀ c o, c ≠ z → c ≠ TO → c ≠ i1 → c ≠ i2 → s.heap.get? c = some o → h'.get? c = some o) → Q none { s with heap := h' }) : wpAny (model prog w) A (pyNext (.ref z)) Q E s := by
  have hT : s.TypeIs (.ref z) "zip" := ⟨_, hz, rfl⟩
  unfold pyNext
  refine wpAny_bind (wpAny_attempt (wpAny_callSpecial?_slot (name := Str.ofString "__next__") hT F.slot_zip_next
    (wpAny_call_entry F.slot_zip_next hT F.entry_zip_next (zipM_next_end hh D hz hTI hTO h1 h2 hl1 hl2 hend fun h' e hk he => ?_) (F.args_zip_next_1 _))))
  obtain ⟨o, ho, hc⟩ := he
  refine wpAny_bind (wpAny_isInstance (T := "StopIteration") (b := true) ⟨o, ho, hc⟩ isSubtype_stop ?_)
  exact wpAny_pure (hQ _ hk)
end

abbrev zipMH1 (h : Heap) (l1 : Addr) : Heap := h.push { cls := .type "list_iterator", data := .fields #[.ref l1, .int 0 0] }
abbrev zipMH2 (h : Heap) (l1 l2 : Addr) : Heap := (zipMH1 h l1).push { cls := .type "tuple_iterator", data := .fields #[.ref l2, .int 0 0] }
abbrev zipMH3 (h : Heap) (l1 l2 : Addr) : Heap := (zipMH2 h l1 l2).push { cls := .type "tuple", data := .seq #[.ref h.objs.size, .ref (zipMH1 h l1).objs.size] }
abbrev zipMH4 (h : Heap) (l1 l2 : Addr) : Heap := (zipMH3 h l1 l2).push { cls := .type "tuple", data := .seq #[.none, .none] }
abbrev zipMH5 (h : Heap) (l1 l2 : Addr) : Heap := (zipMH4 h l1 l2).push { cls := .type "zip", data := .fields #[.none, .bool false, .bool false, .ref (zipMH2 h l1 l2).objs.size, .ref (zipMH3 h l1 l2).objs.size] }

theorem meets_zipM_new (l1 l2 : Addr) (xs ys : Array Value) :
    Meets (Builtin.«zip.__new__» ⟨[.type "zip", .ref l1, .ref l2], []⟩) (fun _ R s => s.heap.IsList l1 xs ∧ s.heap.IsTuple l2 ys ∧
      R (.ok (.ret (.ref (zipMH4 s.heap l1 l2).objs.size))) { s with heap := zipMH5 s.heap l1 l2 }) :=
  .of_wp fun prog w A R s h => by
    obtain ⟨hp, g, d, tk, os⟩ := s; obtain ⟨hl1, hl2, h⟩ := h
    have hsub := sub_zip
    have hL1 : Heap.IsList (Shared.heap ⟨hp, g, d, tk, os⟩) l1 xs := hl1
    have hL2 : Heap.IsTuple (Shared.heap ⟨hp.push { cls := .type "list_iterator", data := .fields #[.ref l1, .int 0 0] }, g, d, tk, os⟩) l2 ys := Heap.IsTuple.push hl2 _
    wp_walk using wpAny_pyIter_list hL1, wpAny_pyIter_tuple hL2
    exact ⟨_, rfl, h⟩

section
variable {prog : Program} {w : World} {A : Around} {E : Value → Shared → Prop} {s : Shared}

theorem call_zipM {l1 l2 : Addr} {xs ys : Array Value} {Q : Value → Shared → Prop} (hl1 : s.heap.IsList l1 xs) (hl2 : s.heap.IsTuple l2 ys)
    (h : ∀ h', IsZip h' (s.heap.objs.size + 4) (s.heap.objs.size + 2) (s.heap.objs.size + 3) .none → IsPair h' (s.heap.objs.size + 2) (.ref s.heap.objs.size) (.ref (s.heap.objs.size + 1)) →
      IsPair h' (s.heap.objs.size + 3) .none .none → h'.IsListIter s.heap.objs.size l1 0 → h'.IsTupleIter (s.heap.objs.size + 1) l2 0 → h'.objs.size = s.heap.objs.size + 5 →
      (∀ c o, s.heap.get? c = some o → h'.get? c = some o) → Q (.ref (s.heap.objs.size + 4)) { s with heap := h' }) :
    wpAny (model prog w) A (call (.type "zip") [.ref l1, .ref l2]) Q E s := by
  refine callType_new F.called_zip (by decide) (F.typeCall_zip_2 _ _) (F.newCall_zip_2 _ _) (fun obj => F.args_object_init_3 obj _ _) F.entry_zip_new
    (meets_zipM_new l1 l2 xs ys) ⟨hl1, hl2, ?_⟩
  have z1 : (zipMH1 s.heap l1).objs.size = s.heap.objs.size + 1 := Heap.size_push ..
  have z2 : (zipMH2 s.heap l1 l2).objs.size = s.heap.objs.size + 2 := by rw [Heap.size_push, z1]
  have z3 : (zipMH3 s.heap l1 l2).objs.size = s.heap.objs.size + 3 := by rw [Heap.size_push, z2]
  have z4 : (zipMH4 s.heap l1 l2).objs.size = s.heap.objs.size + 4 := by rw [Heap.size_push, z3]
  have z5 : (zipMH5 s.heap l1 l2).objs.size = s.heap.objs.size + 5 := by rw [Heap.size_push, z4]
  have g5 : (zipMH5 s.heap l1 l2).get? (zipMH4 s.heap l1 l2).objs.size = some _ := Heap.get?_push_size _ rfl
  have g4 : (zipMH5 s.heap l1 l2).get? (zipMH3 s.heap l1 l2).objs.size = some _ := Heap.get?_push_of_some _ (Heap.get?_push_size _ rfl)
  have g3 : (zipMH5 s.heap l1 l2).get? (zipMH2 s.heap l1 l2).objs.size = some _ := Heap.get?_push_of_some _ (Heap.get?_push_of_some _ (Heap.get?_push_size _ rfl))
  have g2 : (zipMH5 s.heap l1 l2).get? (zipMH1 s.heap l1).objs.size = some _ := Heap.get?_push_of_some _ (Heap.get?_push_of_some _ (Heap.get?_push_of_some _ (Heap.get?_push_size _ rfl)))
  have g1 : (zipMH5 s.heap l1 l2).get? s.heap.objs.size = some _ := Heap.get?_push_of_some _ (Heap.get?_push_of_some _ (Heap.get?_push_of_some _ (Heap.get?_push_of_some _ (Heap.get?_push_size _ rfl))))
  show _ ∧ _
  rw [z2, z3, z4] at g5
  rw [z1, z2] at g3
  rw [z3] at g4
  rw [z1] at g2
  rw [z4]
  exact ⟨⟨_, g5, rfl⟩, h _ g5 g3 g4 ⟨_, g1, rfl, rfl⟩ ⟨_, g2, rfl, rfl⟩ z5 fun c o x =>
    Heap.get?_push_of_some _ (Heap.get?_push_of_some _ (Heap.get?_push_of_some _ (Heap.get?_push_of_some _ (Heap.get?_push_of_some _ x))))⟩
end

open PySem.Spec PyProof.Rows L2
def ItzM (K : PySem.W.Frag) (a b : Addr) : It :=
  ⟨fun i H => ∃ (xs ys : List V) (x y : V), SqL K H a xs ∧ SqT K H b ys ∧ xs[i]? = some x ∧ ys[i]? = some y,
    fun i H v H' => ∃ T x y, v = .ref T ∧ H T = none ∧ H' = upd H T (.tup [x, y]) ∧ (∀ xs, SqL K H a xs → xs[i]? = some x) ∧ ∀ ys, SqT K H b ys → ys[i]? = some y,
    fun i H => ∃ xs ys : List V, SqL K H a xs ∧ SqT K H b ys ∧ (xs.length ≤ i ∨ ys.length ≤ i)⟩
theorem turn_zipM {P : Program} {w : World} {K : PySem.W.Frag} {elts : List Expr} {kk : Nat} {tpos : Pos} {a b z TI TO i1 i2 : Addr} (D : ZipApart z TI TO i1 i2 a b) :
    Turn P w K (.Tuple elts kk tpos) (ItzM K a b) [z, TI, TO, i1, i2] z (fun i h => IsZip h z TI TO .none ∧ IsPair h TI (.ref i1) (.ref i2) ∧ (∃ x y, IsPair h TO x y) ∧ h.IsListIter i1 a i ∧ h.IsTupleIter i2 b i) where
  mem := by simp
  obj := fun i h st c hc => by
    obtain ⟨hz, hTI, ⟨x, y, hTO⟩, ⟨o1, e1, _, d1⟩, ⟨o2, e2, _, d2⟩⟩ := st
    have e' : c = z ∨ c = TI ∨ c = TO ∨ c = i1 ∨ c = i2 := by simpa using hc
    rcases e' with q | q | q | q | q
    · rw [q]; exact ⟨_, hz, fun v q => nomatch q⟩
    · rw [q]; exact ⟨_, hTI, fun v q => nomatch q⟩
    · rw [q]; exact ⟨_, hTO, fun v q => nomatch q⟩
    · rw [q]; exact ⟨o1, e1, fun v q => by rw [d1] at q; cases q⟩
    · rw [q]; exact ⟨o2, e2, fun v q => by rw [d2] at q; cases q⟩
  keep := fun i h h' st k => by
    obtain ⟨hz, hTI, ⟨x, y, hTO⟩, h1, h2⟩ := st
    exact ⟨k z (by simp) _ hz, k TI (by simp) _ hTI, ⟨x, y, k TO (by simp) _ hTO⟩, h1.at fun o q => k i1 (by simp) o q, h2.at fun o q => k i2 (by simp) o q⟩
  item := by
    intro X hP hw hK hc i pins s σ H E I hf st hg
    subst hP hw hK
    obtain ⟨hz, hTI, ⟨x0, y0, hTO⟩, h1, h2⟩ := st
    obtain ⟨xs, ys, x, y, hqx, hqy, hx, hy⟩ := hg
    obtain ⟨its, rv, p, _⟩ := I.list hqx
    obtain ⟨its2, rv2, p2, _⟩ := I.tuple hqy
    obtain ⟨u, hu, ru⟩ := rv.get hx
    obtain ⟨u2, hu2, ru2⟩ := rv2.get hy
    have hzl : z < s.heap.objs.size := Heap.lt_size hz
    refine pyNext_zipM_item D hz hTI hTO h1 h2 p.isList p2 (x := u) (y := u2) (by simpa using hu) (by simpa using hu2) fun h' z' TO' h1' h2' hT hsz hk => ?_
    refine ⟨_, rfl, wpAny_letOwnedTupleGo_zip (s := { s with heap := h' }) z' fun h'' z'' sb => ?_⟩
    have hT2 : h''.get? s.heap.objs.size = some { cls := .type "tuple", data := .seq #[u, u2] } := (sb.2 _ (Nat.ne_of_gt hzl)).trans hT
    have new : ObjOk X.prog X.w (upd H s.heap.objs.size (.tup [x, y])) h'' s.heap.objs.size (.tup [x, y]) :=
      ⟨by show 2 ≤ sizeLine; decide, [u, u2], .cons ru (.cons ru2 .nil), ⟨_, hT2, rfl, _, rfl⟩⟩
    have I1 : Inv X pins σ (upd H s.heap.objs.size (.tup [x, y])) { s with heap := h'' } :=
      I.turnedNew (t' := s.toks) (ch := [z, TI, TO, i1, i2]) (fun c o hb q => (sb.2 c (fun q' => hb (by simp [q']))).trans (hk c o (fun q' => hb (by simp [q'])) (fun q' => hb (by simp [q'])) (fun q' => hb (by simp [q'])) (fun q' => hb (by simp [q'])) q)) hf (Nat.le_refl _) new
    refine ⟨.ref s.heap.objs.size, _, I1, rfl, ⟨_, x, y, rfl, I.hok.fresh (Nat.le_refl _), rfl, fun l hl => by rw [I.list_inj hl hqx]; exact hx, fun l hl => by rw [I.tuple_inj hl hqy]; exact hy⟩, ⟨z'', ?_, ⟨u, u2, ?_⟩, ?_, ?_⟩, fun c hcm => ?_⟩
    · exact (sb.2 _ D.TIz).trans (hk _ _ D.TIz D.TITO D.TIi1 D.TIi2 hTI)
    · exact (sb.2 _ D.TOz).trans TO'
    · exact h1'.at fun o q => (sb.2 _ D.i1z).trans q
    · exact h2'.at fun o q => (sb.2 _ D.i2z).trans q
    · have hlt : c < s.heap.objs.size := by
        have e' : c = z ∨ c = TI ∨ c = TO ∨ c = i1 ∨ c = i2 := by simpa using hcm
        rcases e' with q | q | q | q | q
        · rw [q]; exact hzl
        · rw [q]; exact Heap.lt_size hTI
        · rw [q]; exact Heap.lt_size hTO
        · rw [q]; obtain ⟨_, e1, _⟩ := h1; exact Heap.lt_size e1
        · rw [q]; obtain ⟨_, e2, _⟩ := h2; exact Heap.lt_size e2
      rw [upd_ne (Nat.ne_of_lt hlt)]
      exact (hf c hcm).1
  done := by
    intro X hP hw hK hc i pins s σ H E I hf st hg
    subst hP hw hK
    obtain ⟨hz, hTI, ⟨x0, y0, hTO⟩, h1, h2⟩ := st
    obtain ⟨xs, ys, hqx, hqy, hend⟩ := hg
    obtain ⟨its, rv, p, _⟩ := I.list hqx
    obtain ⟨its2, rv2, p2, _⟩ := I.tuple hqy
    have l1 := rv.length
    have l2 := rv2.length
    have he : its.toArray[i]? = none ∨ its2.toArray[i]? = none := by
      rcases hend with q | q
      · exact .inl (by simp; omega)
      · exact .inr (by simp; omega)
    exact pyNext_zipM_end (I.ok.hd hc) D hz hTI hTO h1 h2 p.isList p2 he fun h' hk => ⟨rfl, I.turnedL (t' := s.toks) (ch := [z, TI, TO, i1, i2]) (fun c o hb q =>
      hk c o (fun q' => hb (by simp [q'])) (fun q' => hb (by simp [q'])) (fun q' => hb (by simp [q'])) (fun q' => hb (by simp [q'])) q) hf⟩
  self := fun A i s Q E st h => wpAny_pyIter_zip st.1 h

def iZipM (K : PySem.W.Frag) (ta : TA) : TI := fun σ H R => ta σ H fun vs H1 => ∃ a b xs ys, vs = [.ref a, .ref b] ∧ SqL K H1 a xs ∧ SqT K H1 b ys ∧ R (ItzM K a b) H1
theorem pi_zipM {X : Cx} {e e2 : Expr} {ta : TA} {p pos tpos : Pos} {elts : List Expr} {kk : Nat} (hg : Gl X "zip") (hm : X.mg "zip" = none) (ha : PA X [e, e2] ta)
    (hs : starEach [e, e2] X.env = (false, eval e X.env) :: starEach [e2] X.env := by rfl) (hpl : (backTo pos (starEach [e2] X.env)).any (·.1) = false := by rfl) :
    PI X (.Tuple elts kk tpos) (.Call (.Name "zip" p) [e, e2] [] pos) (iZipM X.K ta) := by
  refine ⟨fun pins s σ H R I h => ?_⟩
  refine Call_ (ld_blt I hg hm PyProof.Rows.boot_zip (PyProof.Rows.callWith_type1 (thn (ha.run pos pins s σ H _ I h) fun us s1 ⟨vs, H1, I1, r1, q1⟩ => ?_) hs hpl))
  obtain ⟨a, b, xs, ys, ex, q1⟩ := q1
  subst ex
  cases r1 with
  | cons r rr =>
    cases rr with
    | cons r' rr =>
      cases rr
      cases r
      cases r'
      have fresh5 : ∀ c, c ∈ [s1.heap.objs.size + 4, s1.heap.objs.size + 2, s1.heap.objs.size + 3, s1.heap.objs.size, s1.heap.objs.size + 1] → FpOk X pins H1 c := fun c hcm => by
        have e' : c = s1.heap.objs.size + 4 ∨ c = s1.heap.objs.size + 2 ∨ c = s1.heap.objs.size + 3 ∨ c = s1.heap.objs.size ∨ c = s1.heap.objs.size + 1 := by simpa using hcm
        have hle : s1.heap.objs.size ≤ c := by
          rcases e' with z | z | z | z | z
          · rw [z]; exact Nat.le_add_right _ _
          · rw [z]; exact Nat.le_add_right _ _
          · rw [z]; exact Nat.le_add_right _ _
          · rw [z]; exact Nat.le_refl _
          · rw [z]; exact Nat.le_add_right _ _
        exact I1.fpOk hle (I1.hok.fresh hle)
      obtain ⟨hqx, hqy, q⟩ := q1
      obtain ⟨its, rv, p1, _⟩ := I1.list hqx
      obtain ⟨its2, rv2, p2, _⟩ := I1.tuple hqy
      obtain ⟨o2, ho2, _⟩ := id p2
      refine call_zipM p1.isList (show s1.heap.IsTuple b its2.toArray from p2) fun h' hz hTI hTO h1 h2 hsz hk => wpAny_pyIter_zip hz ?_
      have I2 : Inv X pins σ H1 { s1 with heap := h' } := I1.kept (t' := s1.toks) hk
      exact ⟨s1.heap.objs.size + 4, [s1.heap.objs.size + 4, s1.heap.objs.size + 2, s1.heap.objs.size + 3, s1.heap.objs.size, s1.heap.objs.size + 1], _, _, H1, rfl, I2, turn_zipM (PySem.W.ktu_apart s1.heap.objs.size a b p1.lt (Heap.lt_size ho2)), ⟨hz, hTI, ⟨_, _, hTO⟩, h1, h2⟩, fresh5, q⟩
end DDZM
namespace DD
open PySem PySem.Spec PyProof.Rows L2
section
variable {X : Cx} {K : PySem.W.Frag} {E : XK}
theorem itOk_zipM [Glo] {F : Hp} {a b : Addr} {vs us : List V} {xs ys : List D} (h : SqL K F a vs) (h' : SqT K F b us) (hl : vs.length ≤ sizeLine) (r : Reps K F xs vs) (r' : Reps K F ys us) : ItOk K (DDZM.ItzM K a b) F (pairs xs ys) := by
  refine ⟨by rw [pairs_len, Reps.length r]; omega, fun F1 H s1 s2 => ⟨fun i d e => ?_, ?_⟩⟩
  · obtain ⟨x, y, e1, e2, rfl⟩ := pairs_get e
    obtain ⟨v, k1, r1⟩ := Reps.get r e1
    obtain ⟨u, k2, r2⟩ := Reps.get r' e2
    have hq : SqL K H a vs := Same.seq (s1.trans s2) h
    have hq' : SqT K H b us := Same.sqT (s1.trans s2) h'
    refine ⟨⟨vs, us, v, u, hq, hq', k1, k2⟩, fun q H' hy => ?_⟩
    obtain ⟨T, v', u', rfl, hT, rfl, g1, g2⟩ := hy
    have z1 := g1 vs hq
    have z2 := g2 us hq'
    rw [k1] at z1
    rw [k2] at z2
    cases z1
    cases z2
    exact ⟨_, Gr.new s2 hT, rep_pair (s2.free hT) (Rep.mono s1 _ _ r1) (Rep.mono s1 _ _ r2)⟩
  · refine ⟨vs, us, Same.seq (s1.trans s2) h, Same.sqT (s1.trans s2) h', ?_⟩
    rw [pairs_len, Reps.length r, Reps.length r']
    omega
def dZipM : List D → R (List D)
  | [.lst xs, .tup ys] => .ok (pairs xs ys)
  | _ => .un
theorem i_zipM [Glo] {elts : List Expr} {kk : Nat} {tpos : Pos} {e e2 : Expr} {p pos : Pos} {ta : TA} {a : Env → R (List D)} (hg : Gl X "zip") (hm : X.mg "zip" = none) (ha : DA X K E [e, e2] ta a) (hs : starEach [e, e2] X.env = (false, eval e X.env) :: starEach [e2] X.env := by rfl) (hpl : (backTo pos (starEach [e2] X.env)).any (·.1) = false := by rfl) (hK : X.K = K := by rfl) :
    DI X K E (.Tuple elts kk tpos) (.Call (.Name "zip" p) [e, e2] [] pos) (DDZM.iZipM K ta) (itR dZipM a) := by
  subst hK
  refine ⟨DDZM.pi_zipM hg hm ha.pa hs hpl, fun F0 B F σ H ρ Rr ok w => ?_⟩
  refine ha.ev F0 B F σ H ρ _ ok (W.imp (W.bind w) fun xs F1 H1 g1 w1 vs r1 => ?_)
  have w1 : W F1 H1 (fun items F' H' => ∀ J, ItOk X.K J F' items → Rr J H') (dZipM xs) E := w1
  unfold dZipM at w1
  split at w1
  · obtain ⟨v, u, rfl, ⟨p1, vs, rfl, h1, h2, h3⟩, p2, us, rfl, k1, k2, k3⟩ := reps2 r1
    exact ⟨p1, p2, vs, us, rfl, Same.seq g1.fh (SqL.of h1), Same.sqT g1.fh k1, W.ok g1.fh w1 _ (itOk_zipM (SqL.of h1) k1 h2 h3 k3)⟩
  · exact w1.elim
end
end DD

/-! DDQ: an exception that leaves a list comprehension -/
namespace DDX
open PySem PySem.Spec PyProof.Rows L2
/-- what is wanted behind the block -/
def postX (M : Model) (A : Around) (E : Value → Shared → Prop) (Q : Value → Shared → Prop) (acc : Value) (env : PySem.Env) (r : Result) (s' : Shared) : Prop :=
  match r with
  | .ok _ => ∃ m, s'.heap.Ns env.locals m ∧ ∀ h', Heap.SameBut env.locals s'.heap h' → Q acc { s' with heap := h' }
  | .error x => ∃ m, s'.heap.Ns env.locals m ∧ ∀ h', Heap.SameBut env.locals s'.heap h' → wpAny M A (PySem.passOn "comprehension.variables-let-go" x env : Sem Value) (fun _ _ => False) E { s' with heap := h' }
theorem comp_any {M : Model} {A : Around} {E : Value → Shared → Prop} {s : Shared} {env : PySem.Env} {e : Expr} {scope : Scope} {pos : Pos} {newAcc first : Sem Value} {g : Comprehension} {gs : List Comprehension} {cl : List (Str × Addr)} {Q : Value → Shared → Prop}
    (hcl : clausesOf e = g :: gs) (hs : ∀ x, foldedSetIterable g.iter env x = pure x) (hclos : closureFor scope env = pure cl) (hkind : scope.kind = .function) (hnames : ∀ x ∈ scope.names, x.2 = .local → scope.names.lookup x.1 = some .local)
    (h : wpAny M A first (fun x s₁ => wpAny M A (pyIter x) (fun it s₂ => wpAny M A newAcc (fun acc s₃ => wpAny M A (newFunctionEnv scope env.globals cl [] env.qual none .none (some env)) (fun cenv s₄ =>
        codeAny M A (.compStart e 0 it acc { cenv with scope := relabel scope env }) (postX M A E Q acc { cenv with scope := relabel scope env }) s₄) E s₃) E s₂) E s₁) E s) :
    wpAny M A (comprehension e scope env pos newAcc false first none) Q E s := by
  unfold comprehension
  rw [hclos, hcl]
  refine wpAny_bind (wpAny_mono h (fun x s₁ h₁ => wpAny_bind (wpAny_standAt (wpAny_bind (wpAny_of_eq (hs x) (wpAny_bind (wpAny_holding (wpAny_mono h₁ (fun it s₂ h₂ =>
    wpAny_standIf (wpAny_bind (wpAny_mono h₂ (fun acc s₃ h₃ => wpAny_bind (wpAny_pure (wpAny_bind (wpAny_mono h₃ (fun cenv s₄ h₄ => ?_) fun _ _ h' => h')))) fun _ _ h' => h'))) fun _ _ h' => h'))))))) fun _ _ h' => h')
  dsimp only
  have hv : ∀ x ∈ (scope.names.filter fun x => (x.2 == .local || x.2 == .cell) && x.1 != (".0" : Str)).reverse, x.2 = .local →
      Env.kindOf { cenv with scope := relabel scope env } x.1 = some .local := fun x hx hl => lookup_relabel_local (hnames x (List.mem_filter.mp (List.mem_reverse.mp hx)).1 hl)
  refine wpAny_holding (wpAny_bind (wpAny_attempt (wpAny_holding (wpAny_run (codeAny_mono h₄ fun r s' hr => ?_)))))
  cases r with
  | ok f =>
    obtain ⟨m, hn, hr⟩ := hr
    exact wpAny_bind (wpAny_holding (wpAny_comp_letGo (cenv := { cenv with scope := relabel scope env }) hkind _ s' m hv hn fun h' m' _ hs' => wpAny_pure (hr h' hs')))
  | error x =>
    obtain ⟨m, hn, hr⟩ := hr
    exact wpAny_bind (wpAny_holding (wpAny_comp_letGo (cenv := { cenv with scope := relabel scope env }) hkind _ s' m hv hn fun h' m' _ hs' => wpAny_mono (hr h' hs') (fun _ _ f => f.elim) fun _ _ y => y))
section
variable {X : Cx} {pins : List (Addr × Obj)} {σ : L2.St} {H3 H5 : Hp} {s3 sI s' : Shared} {E : XK} {fp : List Addr} {C : Addr} {e : Value} {ce : PySem.Env}
/-- the block's exception, noted by the def's frame, its variables let go, is in the def's air -/
theorem out_of (hst : X.stack = X.env :: X.outer) (hfr : X.env.frame = some X.env.locals) (tk : Takes X (fun cls d _ H => E cls d H)) (I3 : Inv X pins σ H3 s3) (un : Un (frs X.stack) fp H3 H5 s3.heap sI.heap) (ios : sI.os = s3.os)
    (hfp : ∀ b ∈ fp, FpOk X pins H3 b) (hC : s3.heap.objs.size ≤ C) (hCn : H5 C = none) {m : Str → Option Value} (hCs : sI.heap.Ns C m) (hce : ce.frame = X.env.frame) (hcl : ce.locals = C) (c : L2.CX X.prog X.w X.stack H5 sI E e s') :
    notedBy (model X.prog X.w) X.A ce (fun x s₁ => ∃ m, s₁.heap.Ns ce.locals m ∧ ∀ h', Heap.SameBut ce.locals s₁.heap h' → wpAny (model X.prog X.w) X.A (PySem.passOn "comprehension.variables-let-go" x ce : Sem Value) (fun _ _ => False) X.xe { s₁ with heap := h' }) e s' := by
  obtain ⟨a, B, H', cls, d, rfl, fl, hok, ub, na, os, ag, hE⟩ := c
  obtain ⟨oc, es, ep, hoc, hdc, hnm⟩ := hCs
  have nCf : C ∉ frs X.stack := fun hm => by
    obtain ⟨_, o, ho, _⟩ := I3.stack.mem hm
    exact absurd (Heap.lt_size ho) (Nat.not_lt.mpr hC)
  have hCB : B.get? C = some oc := ub.keep C oc hoc hCn nCf
  have hH'C : H' C = none := ub.free C oc hoc hCn
  have frm : X.A.frames = some (X.env :: X.outer) := by rw [I3.ok.frames, hst]
  rw [hst] at fl
  have nf : noteFrame (.ref a) ce = noteFrame (.ref a) X.env := by
    unfold PySem.noteFrame PySem.frameOf
    rw [hce]
  unfold notedBy
  rw [nf, hcl]
  refine HandSPX.looks_onZ Zc.steady frm hfr fl fun h1 held up1 => ?_
  refine ⟨m, ⟨oc, es, ep, held.1 C oc hCB, hdc, hnm⟩, fun h' sb => ?_⟩
  -- the ground without the block's variables
  obtain ⟨B', b1, b2⟩ := restrict B fun b => decide (b ≠ C)
  have ofB : ∀ b o, B'.get? b = some o → b ≠ C ∧ B.get? b = some o := fun b o q => by
    by_cases z : b = C
    · rw [b2 b (by simp [z])] at q; cases q
    · rw [b1 b (by simp [z])] at q
      exact ⟨z, q⟩
  have toB : ∀ b o, b ≠ C → B.get? b = some o → B'.get? b = some o := fun b o z q => by rw [b1 b (by simp [z])]; exact q
  have noB : ∀ b, B.get? b = none → B'.get? b = none := fun b q => by
    by_cases z : b = C
    · exact b2 b (by simp [z])
    · rw [b1 b (by simp [z])]; exact q
  obtain ⟨st1, hen, hl, oe, vs, T, oT, ts, he, hz, hd, hv1, hnT, hTe, hT, hdT, ht3⟩ := held
  have naC : a ≠ C := fun z => by rw [z, hCB] at hen; cases hen
  have nTC : T ≠ C := fun z => by rw [z, hCB] at hnT; cases hnT
  have held' : HandSPX.HeldZ B' (X.env :: X.outer) a (Zc cls d) X.env.locals h' := by
    refine ⟨fun b o q => ?_, noB a hen, ?_, oe, vs, T, oT, ts, (sb.2 a naC).trans he, hz, hd, hv1, noB T hnT, hTe, (sb.2 T nTC).trans hT, hdT, ht3⟩
    · obtain ⟨z, q⟩ := ofB b o q
      exact (sb.2 b z).trans (st1 b o q)
    · have ff : ∀ l : List PySem.Env, (∀ b ∈ frs l, b ∈ frs (X.env :: X.outer)) → h1.FunFrames B l → h'.FunFrames B' l := fun l => by
        induction l with
        | nil => intro _ _; trivial
        | cons ev r ih =>
          rintro hsub ⟨k1, ⟨L, o, k2, k3, k4, k5⟩, k6⟩
          have hm : L ∈ frs (ev :: r) := by
            show L ∈ List.filterMap (·.frame) (ev :: r)
            rw [List.filterMap_cons, k2]
            exact List.mem_cons_self
          have hL : L ≠ C := fun z => nCf (by rw [hst, ← z]; exact hsub L hm)
          refine ⟨k1, ⟨L, o, k2, noB L k3, (sb.2 L hL).trans k4, k5⟩, ih (fun b hb => hsub b ?_) k6⟩
          show b ∈ List.filterMap (·.frame) (ev :: r)
          rw [List.filterMap_cons, k2]
          exact List.mem_cons_of_mem _ hb
      exact ff _ (fun _ h => h) hl
  unfold PySem.passOn
  have he' : h'.get? a = some oe := (sb.2 a naC).trans he
  refine wpAny_bind (wpAny_field (s := { s' with heap := h' }) he' hd hv1 ?_)
  rw [if_neg (show ¬ ((Value.ref T == Value.none) = true) from by simp)]
  rw [hce, hfr]
  refine wpAny_bind (HandSPX.setFlight_onZ (s := { s' with heap := h' }) held' fun h2 held2 up2 => wpAny_throw ?_)
  refine tk _ _ ?_
  -- the state without the exception
  obtain ⟨G, g1, g2⟩ := restrict s'.heap fun b => (B'.get? b).isSome || decide (b ∈ frs X.stack)
  have st0 : B.StaysIn s'.heap := fl.1
  have gB : ∀ b o, B'.get? b = some o → G.get? b = some o := fun b o q => by
    rw [g1 b (by simp [q])]
    exact st0 b o (ofB b o q).2
  have gF : ∀ b, b ∈ frs X.stack → G.get? b = s'.heap.get? b := fun b hb => g1 b (by simp [hb])
  have og : ∀ b o, G.get? b = some o → s'.heap.get? b = some o ∧ ((B'.get? b).isSome = true ∨ b ∈ frs X.stack) := fun b o q => by
    cases z : ((B'.get? b).isSome || decide (b ∈ frs X.stack)) with
    | false => rw [g2 b z] at q; cases q
    | true =>
      rw [g1 b z] at q
      exact ⟨q, by simpa [Bool.or_eq_true] using z⟩
  have ltC : ∀ b o, s3.heap.get? b = some o → b ≠ C := fun b o q z => by
    have := Heap.lt_size q
    rw [z] at this
    exact absurd this (Nat.not_lt.mpr hC)
  have hokG : HOk X.prog X.w H' G := fun b o q => (hok b o q).stay (fun x u hx r => gB x u (toB x u (fun z => by
    rcases hx with hx | hx
    · rw [← hx, z, hH'C] at q; cases q
    · rw [z, hH'C] at hx; cases hx) r)) (fun _ r => r) fun _ _ r => r
  have unG : Un (frs X.stack) fp H3 H' s3.heap G := by
    refine ⟨fun b o q n hb hx => ?_, fun b o q n hb hx => ?_, fun b o q n hx => ?_, fun b o q hx => ?_, fun b xs q => ub.tups b xs (un.tups b xs q), fun b o xs q => ub.frzs b o xs (un.frzs b o xs q), fun b ps q => ?_⟩
    · exact gB b o (toB b o (ltC b o q) (ub.keep b o (un.keep b o q n hb hx) (un.free b o q n hx) hb))
    · obtain ⟨sl, q1⟩ := un.slot b o q n hb hx
      obtain ⟨sl2, q2⟩ := ub.slot b _ q1 hb
      exact ⟨sl2, by rw [gF b hb]; exact q2⟩
    · obtain ⟨o', q1⟩ := un.there b o q hx
      exact ub.free b o' q1 (un.free b o q n hx)
    · obtain ⟨o', q1⟩ := un.there b o q hx
      by_cases hb : b ∈ frs X.stack
      · obtain ⟨sl, q2⟩ := ub.slot b o' q1 hb
        exact ⟨_, by rw [gF b hb]; exact q2⟩
      · obtain ⟨o2, q2⟩ := ub.there b o' q1 hb
        exact ⟨o2, gB b o2 (toB b o2 (ltC b o q) q2)⟩
    · obtain ⟨m1, q1⟩ := un.tbls b ps q
      obtain ⟨m2, q2⟩ := ub.tbls b _ q1
      exact ⟨m1 ++ m2, by rw [q2, Array.append_assoc]⟩
  have IG : Inv X pins σ H' { s3 with heap := G, gens := s'.gens, drawn := s'.drawn, toks := s'.toks } :=
    I3.call' (ch := fp) (s' := { s3 with heap := G, gens := s'.gens, drawn := s'.drawn, toks := s'.toks }) rfl unG hokG ag fun b hb => ⟨(hfp b hb).2.2.2.1, (hfp b hb).2.1, (hfp b hb).2.2.2.2.1, (hfp b hb).2.2.2.2.2⟩
  refine ⟨a, B', _, pins, σ, H', cls, d, rfl, IG, fun b o q hb => ?_, fun b o q hnf => ?_, .inr (.inr (by rw [hst]; exact held2)), na, os.trans ios, ag, hE⟩
  · obtain ⟨q1, q2⟩ := og b o q
    rcases q2 with q2 | q2
    · obtain ⟨o', q3⟩ := Option.isSome_iff_exists.mp q2
      have z := st0 b o' (ofB b o' q3).2
      rw [q1] at z; cases z
      exact q3
    · exact absurd q2 hb
  · obtain ⟨q1, q2⟩ := og b o q
    have nb : b ≠ C := fun z => by
      rcases q2 with q2 | q2
      · obtain ⟨o', q3⟩ := Option.isSome_iff_exists.mp q2
        exact (ofB b o' q3).1 z
      · exact nCf (z ▸ q2)
    obtain ⟨sl1, r1⟩ := up1 b o q1 hnf
    obtain ⟨sl2, r2⟩ := up2 b _ ((sb.2 b nb).trans r1) hnf
    exact ⟨sl2, r2⟩
/-- a list comprehension whose element may raise -/
theorem lcx_core {H : Hp} {s : Shared} {Q : VK} {elt tg iter : Expr} {ifs : List Expr} {scope : Scope} {own : List (Str × Nat)} {pos pos' : Pos} {wi : TI} {g : TG} {tt : TT} {te : TE}
    (hst : X.stack = X.env :: X.outer) (hfr : X.env.frame = some X.env.locals) (tk : Takes X (fun cls d _ H => E cls d H)) (hc : X.calm = true) (hN : X.N.Nodup) (I : Inv X pins σ H s) (hi : PI X tg iter wi) (ok : BlkOk X.N X.env.scope scope own)
    (hg : ∀ (s : Shared) (H : Hp) (C : Addr) (cl : List (Str × Addr)) (fp : List Addr), PG (X.blk s H scope (compEnvC scope cl C X.env) fp) tg g) (ht : ∀ (s : Shared) (H : Hp) (C : Addr) (cl : List (Str × Addr)) (fp : List Addr), PTs (X.blk s H scope (compEnvC scope cl C X.env) fp) ifs tt)
    (he : ∀ (s : Shared) (H : Hp) (C : Addr) (cl : List (Str × Addr)) (fp : List Addr) (xe : Value → Shared → Prop), Passes (L2.CX X.prog X.w) ((X.blk s H scope (compEnvC scope cl C X.env) fp).wish xe) E → PE ((X.blk s H scope (compEnvC scope cl C X.env) fp).wish xe) elt te) (hs : ∀ x, foldedSetIterable iter X.env x = pure x)
    (h : tLc wi g tt te (own.map (·.2)) σ H Q) :
    wpAny (model X.prog X.w) X.A (comprehension (.ListComp elt [⟨tg, iter, ifs, 0⟩] scope pos) scope X.env pos' (newList []) false (eval iter X.env) none) (EP X pins σ Q) X.xe s := by
  have hfree : ∀ y ∈ scope.names, y.2 = .free → ∃ c, X.env.cells.lookup y.1 = some c := fun y hy e => by
    rcases ok.free y hy e with k | k
    · exact I.ok.has _ (.inl k)
    · exact I.ok.has _ (.inr k)
  refine comp_any rfl hs (closure_ok hfree) ok.kind (fun y hy e => by rw [ok.uniq y hy, e]) (thn (hi.run pins s σ H _ I h) fun xv s1 hx => thn hx fun itv s2 h2 => ?_)
  obtain ⟨it, fp, tn, J, H2, e, I2, T, st2, f2, q⟩ := h2
  subst e
  refine wpAny_newObj_type (newEnv_comp ?_) (by show 0 ≤ sizeLine; decide)
  generalize hD : s2.heap.objs.size = D
  have hDn : H2 D = none := I2.hok.fresh (Nat.le_of_eq hD)
  obtain ⟨W, ⟨m0, w0⟩, turn⟩ := q D hDn
  generalize hs3 : ({ s2 with heap := s2.heap.push { cls := .type "list", data := .seq ([] : List Value).toArray } } : Shared) = s3
  have I3 : Inv X pins σ (upd H2 D (.lst [])) s3 := by
    rw [← hs3]
    refine I2.laid (t' := s2.toks) (fun b o e => Heap.get?_push_of_some _ e) (Nat.le_of_eq hD) ⟨Nat.zero_le _, [], 0, .nil, ?_⟩
    rw [← hD]
    exact Heap.get?_push_size _ rfl
  have h3 : s3.heap = s2.heap.push { cls := .type "list", data := .seq ([] : List Value).toArray } := by rw [← hs3]
  have sz : ∀ b ∈ fp, b < s2.heap.objs.size := fun b hb => by
    obtain ⟨o, e, _⟩ := T.obj _ _ st2 b hb
    exact Heap.lt_size e
  have f3 : ∀ b ∈ fp, FpOk X pins (upd H2 D (.lst [])) b ∧ b < s3.heap.objs.size := fun b hb => by
    have hlt := sz b hb
    refine ⟨⟨?_, (f2 b hb).2⟩, by rw [h3, Heap.size_push]; exact Nat.lt_succ_of_lt hlt⟩
    rw [upd_ne (by rw [← hD]; exact Nat.ne_of_lt hlt)]
    exact (f2 b hb).1
  have st3 : tn 0 s3.heap := T.keep _ _ _ st2 fun b _ o e => by rw [h3]; exact Heap.get?_push_of_some _ e
  have I4 := block_start I3 ok hN f3
  have pg := hg s3 (upd H2 D (.lst [])) s3.heap.objs.size (cellsFrom (s3.heap.objs.size + 1) scope.names (cloFrom X.env.cells scope.names [])) fp
  have pt := ht s3 (upd H2 D (.lst [])) s3.heap.objs.size (cellsFrom (s3.heap.objs.size + 1) scope.names (cloFrom X.env.cells scope.names [])) fp
  have pe := he s3 (upd H2 D (.lst [])) s3.heap.objs.size (cellsFrom (s3.heap.objs.size + 1) scope.names (cloFrom X.env.cells scope.names [])) fp
  show codeAny _ _ (.compStart (.ListComp elt [⟨tg, iter, ifs, 0⟩] scope pos) 0 (.ref it) (.ref D) (compEnvC scope (cellsFrom (s3.heap.objs.size + 1) scope.names (cloFrom X.env.cells scope.names [])) s3.heap.objs.size X.env))
    (postX (model X.prog X.w) X.A X.xe (EP X pins σ Q) (.ref D) (compEnvC scope (cellsFrom (s3.heap.objs.size + 1) scope.names (cloFrom X.env.cells scope.names [])) s3.heap.objs.size X.env)) { s3 with heap := pushCells (s3.heap.push { cls := .type "dict", data := .dict #[] }) scope.names }
  have nfp : ∀ b ∈ fp, (upd H2 D (.lst [])) b = none := fun b hb => (f3 b hb).1.1
  generalize hce : compEnvC scope (cellsFrom (s3.heap.objs.size + 1) scope.names (cloFrom X.env.cells scope.names [])) s3.heap.objs.size X.env = ce at I4 pg pt pe ⊢
  have cL : ce.locals = s3.heap.objs.size := by subst hce; rfl
  have cF : ce.frame = X.env.frame := by subst hce; rfl
  generalize hH3 : upd H2 D (.lst []) = H3 at I3 I4 pg pt pe w0 nfp f3
  generalize hs4 : ({ s3 with heap := pushCells (s3.heap.push { cls := .type "dict", data := .dict #[] }) scope.names } : Shared) = s4 at I4 ⊢
  have st4 : tn 0 s4.heap := T.keep _ _ _ st3 fun b _ o e => by rw [← hs4]; exact pushCells_keeps _ _ _ _ (Heap.get?_push_of_some _ e)
  have stat : ∀ {σ' : L2.St} {H' : Hp} {s' : Shared}, Inv (X.blk s3 H3 scope ce fp) [] σ' H' s' → (∀ b ∈ fp, H' b = none) → ∀ b ∈ fp, FpOk (X.blk s3 H3 scope ce fp) [] H' b := fun {σ' H' s'} I' hn b hb =>
    ⟨hn b hb, (I'.ok.exf b hb).1, I'.ok.exfs b hb, .inl hb, fun x c e => (I'.ok.exf b hb).2 x c e, fun p hp => absurd (show p ∈ ([] : List (Addr × Obj)) ++ [] from hp) (by simp)⟩
  -- what an exception in the block leads to
  have out : ∀ (pn : List (Addr × Obj)) (σ' : L2.St) (H' : Hp) (sI : Shared) (x : Value) (s' : Shared), Inv (X.blk s3 H3 scope ce fp) pn σ' H' sI → L2.CX X.prog X.w X.stack H' sI E x s' →
      notedBy (model X.prog X.w) X.A ce (fun e s' => postX (model X.prog X.w) X.A X.xe (EP X pins σ Q) (.ref D) ce (.error e) s') x s' := fun pn σ' H' sI x s' I' c => by
    obtain ⟨m, hn, _⟩ := I'.loc
    have hn : sI.heap.Ns ce.locals m := hn
    have nC : H' ce.locals = none := I'.free
    rw [cL] at hn nC
    exact out_of hst hfr tk I3 I'.base I'.os (fun b hb => (f3 b hb).1) (Nat.le_refl _) nC hn cF cL c
  have loop : codeAny (model X.prog X.w) X.A (.compLoop (.ListComp elt [⟨tg, iter, ifs, 0⟩] scope pos) 0 (.ref it) (.ref D) ce) (postX (model X.prog X.w) X.A X.xe (EP X pins σ Q) (.ref D) ce) s4 := by
    refine compLoop_any (fun n s' => ∃ i H', Inv (X.blk s3 H3 scope ce fp) [] (wipe σ (own.map (·.2))) H' s' ∧ tn i s'.heap ∧ (∀ b ∈ fp, H' b = none) ∧ W i n H') ?_ m0 ⟨0, H3, I4, st4, nfp, w0⟩
    rintro n s5 ⟨i, H5, I5, st5, n5, w5⟩
    rcases turn i n H5 w5 with ⟨stop, qq⟩ | ⟨go, Nx, hNx, step⟩
    · have td := T.done (X.blk s3 H3 scope ce fp) rfl rfl rfl hc i [] s5 _ H5 (fun _ _ => False) I5 (stat I5 n5) st5 stop
      refine thnF td fun r s6 ⟨hr, I6⟩ => ?_
      subst hr
      have I7 : Inv X pins σ H5 s6 := I3.call' (ch := fp) I6.os I6.base I6.hok I6.bare fun b hb => ⟨(f3 b hb).1.2.2.2.1, (f3 b hb).1.2.1, (f3 b hb).1.2.2.2.2.1, (f3 b hb).1.2.2.2.2.2⟩
      have nC : H5 ce.locals = none := I6.free
      obtain ⟨m, hn, _⟩ := I6.loc
      have hn : s6.heap.Ns ce.locals m := hn
      rw [cL] at nC
      obtain ⟨k0, k1, k2, k3, k4, k5⟩ := I3.fpOk (Nat.le_refl _) nC
      refine ⟨m, hn, fun h'' sb => ?_⟩
      rw [cL] at sb
      exact ⟨.ref D, H5, I7.turned (t' := s6.toks) (fun b o hb e => (sb.2 b hb).trans e) k0 k1 k3 k4 k5, rfl, qq⟩
    · have ti := T.item (X.blk s3 H3 scope ce fp) rfl rfl rfl hc i [] s5 _ H5 (fun _ _ => False) I5 (stat I5 n5) st5 go
      refine thnF ti fun r s6 ⟨u, hr, h6⟩ => ?_
      subst hr
      refine thnF h6 fun _ s7 ⟨x, H7, I7, r7, y7, st7, n7⟩ => ?_
      have I7' := I7.pinned (stat I7 n7) (T.obj _ _ st7)
      refine thnF (pg.run _ s7 _ H7 x u _ I7' r7 (step x H7 y7)) fun _ s8 ⟨σ8, H8, I8, hw8, q8⟩ => ?_
      refine thnF (pt.run _ s8 σ8 H8 _ I8 q8) fun b s9 ⟨H9, I9, q9⟩ => ?_
      have fin : ∀ {s' : Shared} {H' : Hp}, Inv (X.blk s3 H3 scope ce fp) ([] ++ pinsAt fp s7.heap) σ8 H' s' → Nx H' → ∃ m, m < n ∧ ∃ i H', Inv (X.blk s3 H3 scope ce fp) [] (wipe σ (own.map (·.2))) H' s' ∧ tn i s'.heap ∧ (∀ b ∈ fp, H' b = none) ∧ W i m H' := fun {s' H'} I' nx => by
        obtain ⟨m', hm, w'⟩ := hNx H' nx
        have pin' : ∀ b ∈ fp, ∀ o, s7.heap.get? b = some o → s'.heap.get? b = some o ∧ H' b = none := fun b hb o e =>
          let z := I'.pin (b, o) (List.mem_append_right _ (List.mem_append_right _ (mem_pinsAt hb e)))
          ⟨z.1, z.2.1⟩
        have hl : (wipe σ (own.map (·.2))).length = σ8.length := by rw [← hw8, wipe_length]
        refine ⟨m', hm, i + 1, H', (I'.unpinned (pins := [])).weak hl (fun j v e => ?_), T.keep _ _ _ st7 fun b hb o e => (pin' b hb o e).1, fun b hb => ?_, w'⟩
        · rw [← hw8] at e
          exact (wipe_some e).1
        · obtain ⟨o, e, _⟩ := T.obj _ _ st7 b hb
          exact (pin' b hb o e).2
      cases b with
      | false =>
        simp only [Bool.false_eq_true, if_false] at q9 ⊢
        exact fin I9 q9
      | true =>
        simp only [if_true] at q9 ⊢
        have pe1 := pe (fun x s' => ∃ (pn : List (Addr × Obj)) (σ' : L2.St) (H' : Hp) (sI : Shared), Inv (X.blk s3 H3 scope ce fp) pn σ' H' sI ∧ L2.CX X.prog X.w X.stack H' sI E x s') fun pn σ' H' sI x s' I' c => ⟨pn, σ', H', sI, I'.unwish, c⟩
        refine wpAny_mono (pe1.run _ s9 σ8 H9 _ (I9.wish _) q9) (fun z s10 ⟨yv, H10, I10, r10, acc, hD10, hz10, nx⟩ => ?_) fun x s' ⟨pn, σ', H', sI, I', c⟩ => out pn σ' H' sI x s' I' c
        exact app_ok (X := X.blk s3 H3 scope ce fp) I10.unwish hD10 hz10 r10 fun s11 I11 => fin I11 nx
  exact codeAny_compStart_list loop (T.self X.A 0 _ _ _ st4 loop)
theorem pe_lcX {elt tg iter : Expr} {ifs : List Expr} {scope : Scope} {own : List (Str × Nat)} {pos : Pos} {wi : TI} {g : TG} {tt : TT} {te : TE} (hst : X.stack = X.env :: X.outer) (hfr : X.env.frame = some X.env.locals) (tk : Takes X (fun cls d _ H => E cls d H)) (hc : X.calm = true) (hN : X.N.Nodup) (hi : PI X tg iter wi) (ok : BlkOk X.N X.env.scope scope own)
    (hg : ∀ (s : Shared) (H : Hp) (C : Addr) (cl : List (Str × Addr)) (fp : List Addr), PG (X.blk s H scope (compEnvC scope cl C X.env) fp) tg g) (ht : ∀ (s : Shared) (H : Hp) (C : Addr) (cl : List (Str × Addr)) (fp : List Addr), PTs (X.blk s H scope (compEnvC scope cl C X.env) fp) ifs tt)
    (he : ∀ (s : Shared) (H : Hp) (C : Addr) (cl : List (Str × Addr)) (fp : List Addr) (xe : Value → Shared → Prop), Passes (L2.CX X.prog X.w) ((X.blk s H scope (compEnvC scope cl C X.env) fp).wish xe) E → PE ((X.blk s H scope (compEnvC scope cl C X.env) fp).wish xe) elt te) (hs : ∀ x, foldedSetIterable iter X.env x = pure x := by intro _; rfl) :
    PE X (.ListComp elt [⟨tg, iter, ifs, 0⟩] scope pos) (tLc wi g tt te (own.map (·.2))) := by
  refine ⟨fun pins s σ H Q I h => ?_⟩
  rw [eval_ListComp]
  exact lcx_core hst hfr tk hc hN I hi ok hg ht he hs h
end
end DDX
namespace DD
open PySem PySem.Spec PyProof.Rows L2
def compXF (tgt : D → Env → R Env) (c : Env → R Bool) (el : Env → R D) (vs : List Nat) (ρ : Env) : List D → R (List D)
  | [] => .ok []
  | x :: xs => (tgt x (wipeE ρ vs)).bind fun ρ1 => (noEr (c ρ1)).bind fun k => if k = true then (el ρ1).bind fun y => (compXF tgt c el vs ρ xs).bind fun ys => .ok (y :: ys) else compXF tgt c el vs ρ xs
def compX (it : Env → R (List D)) (tgt : D → Env → R Env) (c : Env → R Bool) (el : Env → R D) (vs : List Nat) : Env → R D := fun ρ => (it ρ).bind fun xs => (compXF tgt c el vs ρ xs).bind fun ys => .ok (.lst ys)
section
variable {X : Cx} {E : XK} {K : PySem.W.Frag}
theorem ev_lcX [Glo] {vs : List Nat} {wi : TI} {g : TG} {tt : TT} {te : TE} {it : Env → R (List D)} {tgt : D → Env → R Env} {c : Env → R Bool} {el : Env → R D} (hi : EvI K E wi it) (hg : EvG K vs g tgt) (n : NoErG tgt) (ht : EvT K E0 tt c) (he : EvE K E te el) :
    EvE K E (tLc wi g tt te vs) (compX it tgt c el vs) := by
  intro F0 B F σ H ρ Q ok w
  refine hi F0 B F σ H ρ _ ok (W.imp (W.bind w) fun items F1 H1 g1 w1 J hJ => ?_)
  intro A hA
  obtain ⟨hsz, hJ⟩ := hJ
  have g0 : Gr F1 H1 F1 (upd H1 A (.lst [])) := Gr.of (same_new hA) (Same.refl _) (fun b o e => by
    rw [upd_ne (ne_of_none (g1.fh b o e) hA)]
    exact g1.fh b o e) (fun _ _ e => .inl e) id
  refine ⟨fun i m Hi => m = items.length - i ∧ i ≤ items.length ∧ ∃ Fi acc zs, Gr F1 H1 Fi Hi ∧ Fi A = none ∧ Hi A = some (.lst acc) ∧ Reps K Fi zs acc ∧ zs.length ≤ i ∧ W F1 H1 (PV K Q) ((compXF tgt c el vs ρ (items.drop i)).bind fun ws => .ok (.lst (zs ++ ws))) E,
    ⟨items.length, by simp, Nat.zero_le _, F1, [], [], g0, g1.fh.free hA, upd_same, rfl, Nat.zero_le _, w1⟩, ?_⟩
  rintro i m Hi ⟨rfl, hi', Fi, acc, zs, gi, fA, hAi, rz, hzl, wi'⟩
  obtain ⟨hgo, hstop⟩ := hJ Fi Hi gi.ff gi.fh
  by_cases hlt : i < items.length
  · have hd : items[i]? = some items[i] := List.getElem?_eq_getElem hlt
    obtain ⟨go, yl⟩ := hgo i _ hd
    rw [List.drop_eq_getElem_cons hlt] at wi'
    -- the target, the test
    obtain ⟨ρ1, e1, wi'⟩ : ∃ ρ1, tgt items[i] (wipeE ρ vs) = .ok ρ1 ∧ W F1 H1 (PV K Q) (((noEr (c ρ1)).bind fun k => if k = true then (el ρ1).bind fun y => (compXF tgt c el vs ρ (items.drop (i + 1))).bind fun ys => .ok (y :: ys) else compXF tgt c el vs ρ (items.drop (i + 1))).bind fun ws => .ok (.lst (zs ++ ws))) E := by
      unfold compXF at wi'
      cases q : tgt items[i] (wipeE ρ vs) with
      | un => rw [q] at wi'; exact wi'.elim
      | er z => exact absurd q (n _ _ _)
      | ok ρ1 => rw [q] at wi'; exact ⟨ρ1, rfl, wi'⟩
    obtain ⟨k, e2, wi'⟩ : ∃ k, c ρ1 = .ok k ∧ W F1 H1 (PV K Q) ((if k = true then (el ρ1).bind fun y => (compXF tgt c el vs ρ (items.drop (i + 1))).bind fun ys => .ok (y :: ys) else compXF tgt c el vs ρ (items.drop (i + 1))).bind fun ws => .ok (.lst (zs ++ ws))) E := by
      cases q : c ρ1 with
      | un => rw [q] at wi'; exact wi'.elim
      | er _ => rw [q] at wi'; exact wi'.elim
      | ok k => rw [q] at wi'; exact ⟨k, rfl, wi'⟩
    refine .inr ⟨go, fun H2 => ∃ Fi acc zs', Gr F1 H1 Fi H2 ∧ Fi A = none ∧ H2 A = some (.lst acc) ∧ Reps K Fi zs' acc ∧ zs'.length ≤ i + 1 ∧ W F1 H1 (PV K Q) ((compXF tgt c el vs ρ (items.drop (i + 1))).bind fun ws => .ok (.lst (zs' ++ ws))) E, fun H2 h2 => ⟨items.length - (i + 1), by omega, rfl, hlt, h2⟩, fun x H2 hy => ?_⟩
    obtain ⟨F2, g2, r2⟩ := yl x H2 hy
    have keepA : ∀ {Fa Ha Fb Hb : Hp} {y : List V}, Gr Fa Ha Fb Hb → Fa A = none → Ha A = some (.lst y) → Fb A = none ∧ Hb A = some (.lst y) := fun {Fa Ha Fb Hb y} gg h1 h2 => by
      refine ⟨?_, gg.hh _ _ h2 own_lst.1⟩
      cases e : Fb A with
      | none => rfl
      | some o =>
        rcases gg.nw A o e with z | z
        · rw [h1] at z; cases z
        · obtain ⟨ps, q⟩ := z _ h2
          cases q
    obtain ⟨fA2, hA2⟩ := keepA g2 fA hAi
    have ok2 : Ok K F0 B F2 σ H2 ρ := ((ok.grow g1).grow gi).grow g2
    refine hg F0 B F2 (wipe σ vs) H2 (wipeE ρ vs) items[i] x _ (ok2.wipe vs) r2 ρ1 e1 fun σ3 ok3 ew => ?_
    refine ⟨ew.trans ?_, ?_⟩
    · apply List.ext_getElem?
      intro j
      by_cases hj : j ∈ vs
      · by_cases hl : j < σ.length
        · rw [wipe_in hj hl, wipe_in hj (by rw [L2.wipe_length]; exact hl)]
        · rw [List.getElem?_eq_none (by rw [L2.wipe_length, L2.wipe_length]; omega), List.getElem?_eq_none (by rw [L2.wipe_length]; omega)]
      · rw [wipe_get hj]
    refine ht F0 B F2 σ3 H2 ρ1 _ ok3 (W.of_ok e2 fun F3 H3 g3 => ?_)
    obtain ⟨fA3, hA3⟩ := keepA g3 fA2 hA2
    cases k with
    | true =>
      rw [if_pos rfl] at wi'
      show te σ3 H3 _
      refine he F0 B F3 σ3 H3 ρ1 _ (ok3.grow g3) ?_
      cases q : el ρ1 with
      | un => rw [q] at wi'; exact wi'.elim
      | er z =>
        rw [q] at wi'
        exact fun Fa Ha ga => wi' Fa Ha ((((gi.trans g2).trans g3)).trans ga)
      | ok y =>
        rw [q] at wi'
        refine fun F4 H4 g4 v r4 => ?_
        obtain ⟨fA4, hA4⟩ := keepA g4 fA3 hA3
        have g14 : Gr F1 H1 F4 H4 := ((gi.trans g2).trans g3).trans g4
        have nx : W F1 H1 (PV K Q) ((compXF tgt c el vs ρ (items.drop (i + 1))).bind fun ws => .ok (.lst ((zs ++ [y]) ++ ws))) E := by
          cases q2 : compXF tgt c el vs ρ (items.drop (i + 1)) with
          | un => rw [q2] at wi'; exact wi'.elim
          | er z => rw [q2] at wi'; exact wi'
          | ok ws =>
            rw [q2] at wi'
            have wi' : W F1 H1 (PV K Q) (.ok (.lst (zs ++ y :: ws))) E := wi'
            show W F1 H1 (PV K Q) (.ok (.lst ((zs ++ [y]) ++ ws))) E
            rw [List.append_assoc]
            exact wi'
        refine ⟨acc, hA4, ?_, F4, acc ++ [v], zs ++ [y], ⟨fun b o e nn => ?_, fun t => tabs_upd (g14.tb t) hA4 own_lst, g14.nt, g14.ff, fun b o e => ?_, g14.nw⟩, fA4, upd_same, ?_, ?_, nx⟩
        · have := Reps.length rz
          omega
        · rw [upd_ne (ne_of_none e hA)]
          exact g14.hh b o e nn
        · rw [upd_ne (ne_of_none e fA4)]
          exact g14.fh b o e
        · exact Reps.append (Reps.mono ((g2.ff.trans g3.ff).trans g4.ff) _ _ rz) (Reps.one r4)
        · rw [List.length_append]
          exact Nat.succ_le_succ hzl
    | false =>
      show (fun H2 => _) H3
      exact ⟨F3, acc, zs, (gi.trans g2).trans g3, fA3, hA3, Reps.mono (g2.ff.trans g3.ff) _ _ rz, Nat.le_succ_of_le hzl, wi'⟩
  · have e : i = items.length := by omega
    subst e
    rw [List.drop_length] at wi'
    have w2 : W F1 H1 (PV K Q) (.ok (.lst zs)) E := by
      have : W F1 H1 (PV K Q) (.ok (.lst (zs ++ []))) E := wi'
      rwa [List.append_nil] at this
    refine .inl ⟨hstop, w2 (upd Fi A (.lst acc)) Hi ⟨gi.hh, gi.tb, fun t => (gi.nt t).upd own_lst.1, fun b o e => ?_, fun b o e => ?_, fun b o e => ?_⟩ _ ?_⟩
    · rw [upd_ne (ne_of_none (gi.ff b o e) fA)]
      exact gi.ff b o e
    · by_cases hb : b = A
      · subst hb
        rw [upd_same] at e
        cases e
        exact hAi
      · rw [upd_ne hb] at e
        exact gi.fh b o e
    · by_cases hb : b = A
      · subst hb
        exact .inr (Fre.of hA)
      · rw [upd_ne hb] at e
        exact gi.nw b o e
    · refine rep_lst_new fA rz ?_
      have := Reps.length rz
      omega
theorem d_lcX [Glo] {vs : List Nat} {elt tg iter : Expr} {ifs : List Expr} {scope : Scope} {pos : Pos} {wi : TI} {g : TG} {tt : TT} {te : TE} {it : Env → R (List D)} {tgt : D → Env → R Env} {c : Env → R Bool} {el : Env → R D} (own : List (Str × Nat)) (hv : own.map (·.2) = vs) (hst : X.stack = X.env :: X.outer) (hfr : X.env.frame = some X.env.locals) (tk : Takes X (fun cls d _ H => E cls d H)) (hc : X.calm = true) (hN : X.N.Nodup)
    (hi : DI X K E tg iter wi it) (ok : BlkOk X.N X.env.scope scope own) (n : NoErG tgt)
    (hg : ∀ (s : Shared) (H : Hp) (C : Addr) (cl : List (Str × Addr)) (fp : List Addr), DG (X.blk s H scope (compEnvC scope cl C X.env) fp) K vs tg g tgt)
    (ht : ∀ (s : Shared) (H : Hp) (C : Addr) (cl : List (Str × Addr)) (fp : List Addr), DTs (X.blk s H scope (compEnvC scope cl C X.env) fp) K E0 ifs tt c)
    (he : ∀ (s : Shared) (H : Hp) (C : Addr) (cl : List (Str × Addr)) (fp : List Addr) (xe : Value → Shared → Prop), Passes (L2.CX X.prog X.w) ((X.blk s H scope (compEnvC scope cl C X.env) fp).wish xe) E → DE ((X.blk s H scope (compEnvC scope cl C X.env) fp).wish xe) K E elt te el) (hs : ∀ x, foldedSetIterable iter X.env x = pure x := by intro _; rfl) :
    DE X K E (.ListComp elt [⟨tg, iter, ifs, 0⟩] scope pos) (tLc wi g tt te vs) (compX it tgt c el vs) := by
  subst hv
  refine ⟨DDX.pe_lcX hst hfr tk hc hN hi.pi ok (fun s H C cl fp => (hg s H C cl fp).pg) (fun s H C cl fp => (ht s H C cl fp).pt) (fun s H C cl fp xe px => (he s H C cl fp xe px).pe) hs, ?_⟩
  exact ev_lcX hi.ev (hg X.s_0 X.H_0 0 [] []).ev n (ht X.s_0 X.H_0 0 [] []).ev (he X.s_0 X.H_0 0 [] [] (fun e s' => ∃ (pins : List (Addr × Obj)) (σ : L2.St) (H : Hp) (s : Shared), L2.CX X.prog X.w X.stack H s E e s') fun pins σ H s e s' _ q => ⟨pins, σ, H, s, q⟩).ev
/-- a walked thing that may raise -/
theorem ei_allx [Glo] {t : TE} {a : Env → R D} (h : EvE K E t a) : EvI K E (iAll K t) (itV a) := by
  intro F0 B F σ H ρ Rr ok w
  cases q : a ρ with
  | er z =>
    refine .inl ?_
    refine h F0 B F σ H ρ _ ok ?_
    have w : W F H (fun items F' H' => ∀ J, ItOk K J F' items → Rr J H') ((a ρ).bind items) E := w
    rw [q] at w ⊢
    exact w
  | un =>
    have w : W F H (fun items F' H' => ∀ J, ItOk K J F' items → Rr J H') ((a ρ).bind items) E := w
    rw [q] at w
    exact w.elim
  | ok d =>
    have w' : W F H (fun items F' H' => ∀ J, ItOk K J F' items → Rr J H') (itVn a ρ) E := by
      have w : W F H (fun items F' H' => ∀ J, ItOk K J F' items → Rr J H') ((a ρ).bind items) E := w
      show W F H _ ((noEr (a ρ)).bind items) E
      rw [q] at w ⊢
      exact w
    exact ei_alln h F0 B F σ H ρ Rr ok w'
theorem i_allx [Glo] {tg e : Expr} {t : TE} {a : Env → R D} (h : DE X K E e t a) (hK : X.K = K := by rfl) : DI X K E tg e (iAll K t) (itV a) := ⟨(i_all h hK).pi, ei_allx h.ev⟩
end
@[simp] theorem itV_eq {a : Env → R D} {ρ : Env} : itV a ρ = (a ρ).bind items := id rfl
@[simp] theorem compX_eq {it : Env → R (List D)} {tgt : D → Env → R Env} {c : Env → R Bool} {el : Env → R D} {vs : List Nat} {ρ : Env} : compX it tgt c el vs ρ = (it ρ).bind fun xs => (compXF tgt c el vs ρ xs).bind fun ys => .ok (.lst ys) := id rfl
theorem compXF_ok {tgt : D → Env → R Env} {c : Env → R Bool} {el : Env → R D} {vs : List Nat} {ρ : Env} : ∀ {xs ys : List D}, compF tgt c el vs ρ xs = .ok ys → compXF tgt c el vs ρ xs = .ok ys
  | [], ys, h => h
  | x :: xs, ys, h => by
    obtain ⟨ρ1, k, e1, e2, hk⟩ := compF_cons h
    unfold compXF
    rw [e1, bind_ok, e2, noEr_ok', bind_ok]
    rcases hk with ⟨rfl, y, zs, e3, e4, rfl⟩ | ⟨rfl, e4⟩
    · rw [if_pos rfl, e3, bind_ok, compXF_ok e4, bind_ok]
    · rw [if_neg Bool.false_ne_true, compXF_ok e4]
/-- the first that raises -/
theorem compXF_er {α : Type} {tgt : D → Env → R Env} {el : Env → R D} {vs : List Nat} {ρ : Env} {z : Nat} (emb : α → D) (ρ1 : α → Env) (p : α → Bool) (g : α → D) : ∀ (xs : List α), (∀ x ∈ xs, tgt (emb x) (wipeE ρ vs) = .ok (ρ1 x)) → (∀ x ∈ xs, el (ρ1 x) = if p x = true then .ok (g x) else .er z) →
    compXF tgt yesT el vs ρ (xs.map emb) = if xs.all p = true then .ok (xs.map g) else .er z
  | [], _, _ => rfl
  | x :: xs, h0, h1 => by
    have ih := compXF_er (z := z) emb ρ1 p g xs (fun y hy => h0 y (List.mem_cons_of_mem _ hy)) (fun y hy => h1 y (List.mem_cons_of_mem _ hy))
    rw [List.map_cons]
    unfold compXF
    rw [h0 x List.mem_cons_self, bind_ok, yesT_eq, noEr_ok', bind_ok, if_pos rfl, h1 x List.mem_cons_self, ih, List.all_cons]
    cases hp : p x with
    | false => rfl
    | true =>
      rw [if_pos rfl, bind_ok, Bool.true_and]
      split
      · rfl
      · rfl
section
open PySem PyProof.Rows L2
variable {X : Cx} {E : XK} {K : PySem.W.Frag} {ea eb ec : PySem.Expr} {pos : PySem.Pos} {ta tb tc : TE} {a b c : Env → R D} {r r' : R2} {f g : D → D → R D} {op op' : PySem.CmpOp}
/-- a chain as a test -/
theorem t_chn [Glo] (o : OpD K r f) (ho : OpR X (PySem.compareOp op) r) (n : NoEr f) (o' : OpD K r' g) (ho' : OpR X (PySem.compareOp op') r') (n' : NoEr g) (ha : DE X K E ea ta a) (hb : DE X K E eb tb b) (hc : DE X K E ec tc c) (hm : PySem.lastMarks [op, op'] [eb, ec] = false := by rfl) :
    DT X K E (.Compare ea [op, op'] [eb, ec] pos) (tTest (tChain r r' ta tb tc)) (tst (chn f g a b c)) := ⟨pt_chain ho ho' ha.pe hb.pe hc.pe hm, et_test (ev_chn o n o' n' ha.ev hb.ev hc.ev)⟩
end
end DD

namespace DD
open PySem PySem.Spec PyProof.Rows L2
def p_are_figures : Env → R Out := retS (andV (isaV .str (vI 0)) (andV (chn dLe dLe (vI 1) (calls dLen (aCons (vI 0) (aNil))) (vI 2)) (calls dAll (aCons (compV (itVn (vI 0)) (to1 3) (yesT) (op2 dIn (vI 3) (cst (.str [48, 49, 50, 51, 52, 53, 54, 55, 56, 57]))) [3]) (aNil)))))
def f_are_figures : List D → R D := runF p_are_figures 4
def p_is_number : Env → R Out := retS (callF 3 f_are_figures (aCons (vI 0) (aCons (cst (.int 1)) (aCons (cst (.int 12)) (aNil)))))
def f_is_number : List D → R D := runF p_is_number 1
def p_is_word : Env → R Out := retS (andV (isaV .str (vI 0)) (andV (chn dLe dLe (cst (.int 1)) (calls dLen (aCons (vI 0) (aNil))) (cst (.int 4))) (calls dAll (aCons (compV (itVn (vI 0)) (to1 1) (yesT) (op2 dIn (vI 1) (cst (.str [97, 98, 99, 100, 101, 102, 103, 104, 105, 106, 107, 108, 109, 110, 111, 112, 113, 114, 115, 116, 117, 118, 119, 120, 121, 122]))) [1]) (aNil)))))
def f_is_word : List D → R D := runF p_is_word 2
def p_is_rule : Env → R Out := seqS (ifS (orT (notT (tst (isaV .tuple (vI 0)))) (orT (tst (op2 dNe (calls dLen (aCons (vI 0) (aNil))) (cst (.int 3)))) (notT (tst (callF 3 f_are_figures (aCons (op2 dIx (vI 0) (cst (.int 0))) (aCons (cst (.int 0)) (aCons (cst (.int 12)) (aNil))))))))) (retS (cst (.bl false))) (skipS)) (seqS (ifS (orT (notT (tst (isaV .int (op2 dIx (vI 0) (cst (.int 1)))))) (orT (tst (isaV .bool (op2 dIx (vI 0) (cst (.int 1))))) (notT (tst (isaV .str (op2 dIx (vI 0) (cst (.int 2)))))))) (retS (cst (.bl false))) (skipS)) (seqS (ifS (tst (op2 dEq (op2 dIx (vI 0) (cst (.int 1))) (cst (.int 0)))) (retS (op2 dEq (op2 dIx (vI 0) (cst (.int 2))) (cst (.str [])))) (skipS)) (retS (andV (chn dLe dLe (calls dMax2 (aCons (cst (.int 1)) (aCons (calls dLen (aCons (op2 dIx (vI 0) (cst (.int 0))) (aNil))) (aNil)))) (op2 dIx (vI 0) (cst (.int 1))) (cst (.int 12))) (callF 1 f_is_word (aCons (op2 dIx (vI 0) (cst (.int 2))) (aNil)))))))
def f_is_rule : List D → R D := runF p_is_rule 1
def p_is_table : Env → R Out := seqS (ifS (orT (notT (tst (isaV .tuple (vI 0)))) (orT (tst (op2 dGt (calls dLen (aCons (vI 0) (aNil))) (cst (.int 30)))) (notT (tst (calls dAll (aCons (compV (itVn (vI 0)) (to1 1) (yesT) (callF 1 f_is_rule (aCons (vI 1) (aNil))) [1]) (aNil))))))) (retS (cst (.bl false))) (skipS)) (retS (calls dAll (aCons (compV (itR dZip (aCons (slcV (vI 0) (oNo) (oSome (cst (.int (-1))))) (aCons (slcV (vI 0) (oSome (cst (.int 1))) (oNo)) (aNil)))) (toN [2, 3]) (yesT) (op2 dLt (op2 dIx (vI 2) (cst (.int 0))) (op2 dIx (vI 3) (cst (.int 0)))) [2, 3]) (aNil))))
def f_is_table : List D → R D := runF p_is_table 4
def p_rows_text : Env → R Out := retS (methS dJoin (cst (.str [])) (aCons (compV (itVn (vI 0)) (to1 1) (yesT) (op2 dAdd (methS dJoin (cst (.str [32])) (aCons (vI 1) (aNil))) (cst (.str [10]))) [1]) (aNil)))
def f_rows_text : List D → R D := runF p_rows_text 2
def p_rule_words : Env → R Out := seqS (unpS [1, 2, 3] (vI 0)) (seqS (ifS (tst (op2 dEq (vI 1) (cst (.str [])))) (setS 1 (cst (.str [42]))) (skipS)) (seqS (ifS (tst (op2 dEq (vI 2) (cst (.int 0)))) (retS (lstV (aCons (vI 1) (aCons (calls dStr (aCons (vI 2) (aNil))) (aNil))))) (skipS)) (retS (lstV (aCons (vI 1) (aCons (calls dStr (aCons (vI 2) (aNil))) (aCons (vI 3) (aNil))))))))
def f_rule_words : List D → R D := runF p_rule_words 4
def p_table_text : Env → R Out := retS (callF 1 f_rows_text (aCons (compV (itVn (vI 0)) (to1 1) (yesT) (callF 1 f_rule_words (aCons (vI 1) (aNil))) [1]) (aNil)))
def f_table_text : List D → R D := runF p_table_text 2
def b_sample_text_1 : Env → R Out := seqS (ifS (tst (op2 dIsN (vI 3) (cst .non))) (setS 3 (cst (.str [45]))) (skipS)) (appS 1 (lstV (aCons (vI 2) (aCons (vI 3) (aNil)))))
def p_sample_text : Env → R Out := seqS (newLS 1 (aNil)) (seqS (forS (itVn (vI 0)) (toN [2, 3]) (b_sample_text_1)) (frzS 1 (retS (callF 1 f_rows_text (aCons (vI 1) (aNil))))))
def f_sample_text : List D → R D := runF p_sample_text 4
def p_need : Env → R Out := ifS (notT (tst (vI 0))) (erS 3) (skipS)
def f_need : List D → R D := runF p_need 1
def p_rows_of : Env → R Out := seqS (setS 1 (methS dSplit (vI 0) (aCons (cst (.str [10])) (aNil)))) (seqS (dropS (callF 1 f_need (aCons (op2 dEq (op2 dIx (vI 1) (cst (.int (-1)))) (cst (.str []))) (aNil)))) (retS (compV (itVn (slcV (vI 1) (oNo) (oSome (cst (.int (-1)))))) (to1 2) (yesT) (methS dSplit (vI 2) (aCons (cst (.str [32])) (aNil))) [2])))
def f_rows_of : List D → R D := runF p_rows_of 3
def p_rule_of : Env → R Out := seqS (dropS (callF 1 f_need (aCons (andV (chn dLe dLe (cst (.int 2)) (calls dLen (aCons (vI 0) (aNil))) (cst (.int 3))) (andV (chn dLe dLe (cst (.int 1)) (calls dLen (aCons (op2 dIx (vI 0) (cst (.int 1))) (aNil))) (cst (.int 2))) (calls dAll (aCons (compV (itVn (op2 dIx (vI 0) (cst (.int 1)))) (to1 2) (yesT) (op2 dIn (vI 2) (cst (.str [48, 49, 50, 51, 52, 53, 54, 55, 56, 57]))) [2]) (aNil))))) (aNil)))) (seqS (setS 1 (op2 dIx (vI 0) (cst (.int 0)))) (seqS (ifS (tst (op2 dEq (vI 1) (cst (.str [42])))) (setS 1 (cst (.str []))) (skipS)) (retS (tupV (aCons (vI 1) (aCons (calls dInt2 (aCons (op2 dIx (vI 0) (cst (.int 1))) (aNil))) (aCons (op2 dIx (op2 dAdd (vI 0) (lstV (aCons (cst (.str [])) (aNil)))) (cst (.int 2))) (aNil))))))))
def f_rule_of : List D → R D := runF p_rule_of 3
def p_read_table : Env → R Out := seqS (setS 1 (calls dTuple (aCons (compX (itV (callF 1 f_rows_of (aCons (vI 0) (aNil)))) (to1 2) (yesT) (callF 1 f_rule_of (aCons (vI 2) (aNil))) [2]) (aNil)))) (seqS (dropS (callF 1 f_need (aCons (andV (callF 1 f_is_table (aCons (vI 1) (aNil))) (op2 dEq (callF 1 f_table_text (aCons (vI 1) (aNil))) (vI 0))) (aNil)))) (retS (vI 1)))
def f_read_table : List D → R D := runF p_read_table 3
def p_pair_of : Env → R Out := seqS (dropS (callF 1 f_need (aCons (andV (op2 dEq (calls dLen (aCons (vI 0) (aNil))) (cst (.int 2))) (callF 1 f_is_number (aCons (op2 dIx (vI 0) (cst (.int 0))) (aNil)))) (aNil)))) (seqS (ifS (tst (op2 dEq (op2 dIx (vI 0) (cst (.int 1))) (cst (.str [45])))) (retS (tupV (aCons (op2 dIx (vI 0) (cst (.int 0))) (aCons (cst .non) (aNil))))) (skipS)) (seqS (dropS (callF 1 f_need (aCons (callF 1 f_is_word (aCons (op2 dIx (vI 0) (cst (.int 1))) (aNil))) (aNil)))) (retS (tupV (aCons (op2 dIx (vI 0) (cst (.int 0))) (aCons (op2 dIx (vI 0) (cst (.int 1))) (aNil)))))))
def f_pair_of : List D → R D := runF p_pair_of 1
def p_read_sample : Env → R Out := seqS (setS 1 (calls dTuple (aCons (compX (itV (callF 1 f_rows_of (aCons (vI 0) (aNil)))) (to1 2) (yesT) (callF 1 f_pair_of (aCons (vI 2) (aNil))) [2]) (aNil)))) (seqS (dropS (callF 1 f_need (aCons (andV (op2 dLe (calls dLen (aCons (vI 1) (aNil))) (cst (.int 16))) (calls dAll (aCons (compV (itR dZip (aCons (slcV (vI 1) (oNo) (oSome (cst (.int (-1))))) (aCons (slcV (vI 1) (oSome (cst (.int 1))) (oNo)) (aNil)))) (toN [3, 4]) (yesT) (op2 dLt (op2 dIx (vI 3) (cst (.int 0))) (op2 dIx (vI 4) (cst (.int 0)))) [3, 4]) (aNil)))) (aNil)))) (retS (vI 1)))
def f_read_sample : List D → R D := runF p_read_sample 5
def p_l_cell_at : Env → R Out := seqS (ifS (tst (op2 dLt (vI 1) (calls dLen (aCons (vI 0) (aNil))))) (retS (op2 dIx (vI 0) (vI 1))) (skipS)) (retS (cst (.int 0)))
def f_l_cell_at : List D → R D := runF p_l_cell_at 2
def p_l_mixed : Env → R Out := seqS (setS 2 (op2 dMod (op2 dMul (op2 dAdd (op2 dAdd (callF 2 f_l_cell_at (aCons (vI 0) (aCons (vI 1) (aNil)))) (op2 dMul (cst (.int 7919)) (vI 1))) (cst (.int 1))) (cst (.int 48271))) (cst (.int 2147483647)))) (retS (op2 dMod (op2 dAdd (op2 dAdd (op2 dMul (vI 2) (vI 2)) (op2 dMul (cst (.int 7)) (vI 2))) (vI 1)) (cst (.int 2147483629))))
def f_l_mixed : List D → R D := runF p_l_mixed 3
def p_l_drawn : Env → R Out := seqS (setS 2 (op2 dMod (op2 dMul (op2 dAdd (op2 dAdd (vI 0) (op2 dMul (cst (.int 104729)) (vI 1))) (cst (.int 17))) (cst (.int 69621))) (cst (.int 2147483647)))) (retS (op2 dMod (op2 dAdd (op2 dAdd (op2 dMul (vI 2) (vI 2)) (op2 dMul (cst (.int 3)) (vI 2))) (vI 1)) (cst (.int 2147483629))))
def f_l_drawn : List D → R D := runF p_l_drawn 3
def b_l_figures_1 : Env → R Out := setS 2 (op2 dAdd (vI 2) (op2 dIx (cst (.str [48, 49, 50, 51, 52, 53, 54, 55, 56, 57])) (op2 dMod (op2 dDiv (callF 2 f_l_drawn (aCons (vI 0) (aCons (vI 3) (aNil)))) (cst (.int 16))) (op2 dIx (tupV (aCons (cst (.int 2)) (aCons (cst (.int 3)) (aCons (cst (.int 10)) (aNil))))) (op2 dMod (op2 dDiv (vI 0) (cst (.int 16))) (cst (.int 3)))))))
def p_l_figures : Env → R Out := seqS (setS 2 (cst (.str []))) (seqS (forS (itR dRng1 (aCons (op2 dMod (vI 0) (op2 dAdd (vI 1) (cst (.int 1)))) (aNil))) (to1 3) (b_l_figures_1)) (retS (vI 2)))
def f_l_figures : List D → R D := runF p_l_figures 4
def p_l_rule : Env → R Out := seqS (setS 1 (callF 2 f_l_figures (aCons (vI 0) (aCons (op2 dIx (tupV (aCons (cst (.int 2)) (aCons (cst (.int 4)) (aCons (cst (.int 7)) (aNil))))) (op2 dMod (op2 dDiv (vI 0) (cst (.int 16384))) (cst (.int 3)))) (aNil))))) (seqS (setS 2 (op2 dDiv (callF 2 f_l_drawn (aCons (vI 0) (aCons (cst (.int 40)) (aNil)))) (cst (.int 16)))) (seqS (ifS (tst (op2 dEq (op2 dMod (vI 2) (cst (.int 5))) (cst (.int 0)))) (retS (tupV (aCons (vI 1) (aCons (cst (.int 0)) (aCons (cst (.str [])) (aNil)))))) (skipS)) (seqS (setS 3 (op2 dAdd (calls dMax2 (aCons (cst (.int 1)) (aCons (calls dLen (aCons (vI 1) (aNil))) (aNil)))) (op2 dMod (op2 dDiv (vI 2) (cst (.int 8))) (op2 dIx (tupV (aCons (cst (.int 2)) (aCons (cst (.int 4)) (aCons (cst (.int 12)) (aNil))))) (op2 dMod (op2 dDiv (vI 2) (cst (.int 128))) (cst (.int 3))))))) (retS (tupV (aCons (vI 1) (aCons (calls dMin2 (aCons (cst (.int 12)) (aCons (vI 3) (aNil)))) (aCons (op2 dIx (tupV (aCons (cst (.str [97])) (aCons (cst (.str [98])) (aCons (cst (.str [99, 100])) (aCons (cst (.str [104, 111, 109, 101])) (aNil)))))) (op2 dMod (op2 dDiv (vI 2) (cst (.int 512))) (cst (.int 4)))) (aNil)))))))))
def f_l_rule : List D → R D := runF p_l_rule 4
def b_l_table_1 : Env → R Out := seqS (setS 4 (callF 1 f_l_rule (aCons (callF 2 f_l_drawn (aCons (vI 0) (aCons (op2 dAdd (cst (.int 50)) (vI 3)) (aNil)))) (aNil)))) (putS 2 (op2 dIx (vI 4) (cst (.int 0))) (vI 4))
def p_l_table : Env → R Out := seqS (newMS 2) (seqS (forS (itR dRng1 (aCons (op2 dMod (vI 0) (op2 dAdd (vI 1) (cst (.int 1)))) (aNil))) (to1 3) (b_l_table_1)) (frzS 2 (retS (calls dTuple (aCons (compV (itVn (calls dSortedG (aCons (vI 2) (aNil)))) (to1 5) (yesT) (op2 dGet (vI 2) (vI 5)) [5]) (aNil))))))
def f_l_table : List D → R D := runF p_l_table 6
def b_l_sample_1 : Env → R Out := seqS (setS 7 (op2 dMod (op2 dDiv (vI 0) (cst (.int 128))) (cst (.int 3)))) (setS 5 (op2 dAdd (vI 5) (op2 dIx (cst (.str [48, 49, 50, 51, 52, 53, 54, 55, 56, 57])) (op2 dMod (op2 dDiv (callF 2 f_l_drawn (aCons (vI 4) (aCons (vI 6) (aNil)))) (cst (.int 16))) (op2 dIx (tupV (aCons (cst (.int 2)) (aCons (cst (.int 3)) (aCons (cst (.int 10)) (aNil))))) (vI 7))))))
def b_l_sample_2 : Env → R Out := seqS (setS 4 (callF 2 f_l_drawn (aCons (vI 0) (aCons (op2 dAdd (cst (.int 70)) (vI 3)) (aNil))))) (seqS (setS 5 (cst (.str []))) (seqS (forS (itR dRng1 (aCons (op2 dAdd (cst (.int 1)) (op2 dMod (op2 dDiv (vI 4) (cst (.int 16))) (op2 dIx (tupV (aCons (cst (.int 3)) (aCons (cst (.int 5)) (aNil)))) (op2 dMod (op2 dDiv (vI 0) (cst (.int 64))) (cst (.int 2)))))) (aNil))) (to1 6) (b_l_sample_1)) (putS 2 (vI 5) (op2 dIx (tupV (aCons (cst .non) (aCons (cst (.str [97])) (aCons (cst (.str [97])) (aCons (cst (.str [98])) (aCons (cst (.str [99, 100])) (aNil))))))) (op2 dMod (op2 dDiv (vI 4) (cst (.int 128))) (cst (.int 5)))))))
def p_l_sample : Env → R Out := seqS (newMS 2) (seqS (forS (itR dRng1 (aCons (op2 dMod (vI 0) (op2 dAdd (vI 1) (cst (.int 1)))) (aNil))) (to1 3) (b_l_sample_2)) (frzS 2 (retS (calls dTuple (aCons (compV (itVn (calls dSortedG (aCons (vI 2) (aNil)))) (to1 8) (yesT) (tupV (aCons (vI 8) (aCons (op2 dGet (vI 2) (vI 8)) (aNil)))) [8]) (aNil))))))
def f_l_sample : List D → R D := runF p_l_sample 9
def b_l_is_sample_1 : Env → R Out := ifS (orT (notT (tst (callF 1 f_is_number (aCons (vI 2) (aNil))))) (andT (tst (op2 dNotN (vI 3) (cst .non))) (notT (tst (chn dLe dLe (cst (.int 1)) (calls dLen (aCons (vI 3) (aNil))) (cst (.int 4))))))) (retS (cst (.bl false))) (skipS)
def p_l_is_sample : Env → R Out := seqS (setS 1 (compV (itVn (vI 0)) (to1 4) (yesT) (op2 dIx (vI 4) (cst (.int 0))) [4])) (seqS (ifS (orT (notT (tst (isaV .tuple (vI 0)))) (orT (tst (op2 dGt (calls dLen (aCons (vI 0) (aNil))) (cst (.int 16)))) (tst (op2 dNe (vI 1) (calls dSS (aCons (vI 1) (aNil))))))) (retS (cst (.bl false))) (skipS)) (seqS (forS (itVn (vI 0)) (toN [2, 3]) (b_l_is_sample_1)) (retS (cst (.bl true)))))
def f_l_is_sample : List D → R D := runF p_l_is_sample 5
def p_l_bent : Env → R Out := seqS (setS 2 (op2 dMod (vI 1) (op2 dAdd (calls dLen (aCons (vI 0) (aNil))) (cst (.int 1))))) (seqS (setS 3 (op2 dIx (cst (.str [48, 49, 50, 57, 32, 42, 45, 97, 98, 122, 10])) (op2 dMod (op2 dDiv (vI 1) (cst (.int 512))) (cst (.int 11))))) (seqS (setS 4 (methS dSplit (vI 0) (aCons (cst (.str [10])) (aNil)))) (seqS (setS 5 (op2 dMod (op2 dDiv (vI 1) (cst (.int 16384))) (calls dLen (aCons (vI 4) (aNil))))) (seqS (parS [6, 7] (aCons (slcV (vI 0) (oNo) (oSome (vI 2))) (aCons (slcV (vI 0) (oSome (op2 dAdd (vI 2) (cst (.int 1)))) (oNo)) (aNil)))) (seqS (newLS 8 (aCons (op2 dAdd (op2 dAdd (vI 6) (vI 3)) (slcV (vI 0) (oSome (vI 2)) (oNo))) (aCons (op2 dAdd (vI 6) (vI 7)) (aCons (op2 dAdd (op2 dAdd (vI 6) (vI 3)) (vI 7)) (aNil))))) (seqS (setS 9 (op2 dAdd (op2 dAdd (slcV (vI 4) (oNo) (oSome (vI 5))) (slcV (vI 4) (oSome (vI 5)) (oSome (op2 dAdd (vI 5) (cst (.int 1)))))) (slcV (vI 4) (oSome (vI 5)) (oNo)))) (seqS (appS 8 (methS dJoin (cst (.str [10])) (aCons (vI 9) (aNil)))) (seqS (appS 8 (methS dJoin (cst (.str [10])) (aCons (op2 dAdd (slcV (vI 4) (oNo) (oSome (vI 5))) (slcV (vI 4) (oSome (op2 dAdd (vI 5) (cst (.int 1)))) (oNo))) (aNil)))) (frzS 8 (retS (op2 dIx (vI 8) (op2 dMod (op2 dDiv (vI 1) (cst (.int 1048576))) (cst (.int 5))))))))))))))
def f_l_bent : List D → R D := runF p_l_bent 10
def p_l_read : Env → R Out := seqS (ifS (tst (op2 dEq (vI 0) (cst (.int 0)))) (retS (callF 1 f_read_table (aCons (vI 1) (aNil)))) (skipS)) (retS (callF 1 f_read_sample (aCons (vI 1) (aNil))))
def f_l_read : List D → R D := runF p_l_read 2
def p_l_good : Env → R Out := seqS (ifS (tst (op2 dEq (vI 0) (cst (.int 0)))) (retS (andV (op2 dIsB (callF 1 f_is_table (aCons (vI 1) (aNil))) (cst (.bl true))) (op2 dEq (callF 1 f_table_text (aCons (vI 1) (aNil))) (vI 2)))) (skipS)) (retS (andV (isaV .tuple (vI 1)) (andV (callF 1 f_l_is_sample (aCons (vI 1) (aNil))) (op2 dEq (callF 1 f_sample_text (aCons (vI 1) (aNil))) (vI 2)))))
def f_l_good : List D → R D := runF p_l_good 3
def b_law_k64_1 : Env → R Out := seqS (setS 3 (callF 2 f_l_bent (aCons (vI 3) (aCons (op2 dDiv (callF 2 f_l_drawn (aCons (vI 1) (aCons (vI 4) (aNil)))) (cst (.int 4))) (aNil))))) (seqS (setS 5 (tellV toldR (callF 2 f_l_read (aCons (vI 2) (aCons (vI 3) (aNil)))))) (ifS (tst (op2 dEq (op2 dIx (vI 5) (cst (.int 0))) (cst (.str [114, 101, 102, 117, 115, 101, 100])))) (ifS (tst (op2 dNe (vI 5) (tupV (aCons (cst (.str [114, 101, 102, 117, 115, 101, 100])) (aCons (cst (.int 3)) (aNil)))))) (retS (cst (.bl false))) (skipS)) (ifS (notT (tst (callF 3 f_l_good (aCons (vI 2) (aCons (op2 dIx (vI 5) (cst (.int 1))) (aCons (vI 3) (aNil))))))) (retS (cst (.bl false))) (skipS))))
def p_law_k64 : Env → R Out := seqS (setS 1 (callF 2 f_l_mixed (aCons (vI 0) (aCons (cst (.int 0)) (aNil))))) (seqS (setS 2 (op2 dMod (vI 1) (cst (.int 2)))) (seqS (setS 3 (callF 1 f_sample_text (aCons (callF 2 f_l_sample (aCons (callF 2 f_l_mixed (aCons (vI 0) (aCons (cst (.int 1)) (aNil)))) (aCons (cst (.int 6)) (aNil)))) (aNil)))) (seqS (ifS (tst (op2 dEq (vI 2) (cst (.int 0)))) (setS 3 (callF 1 f_table_text (aCons (callF 2 f_l_table (aCons (callF 2 f_l_mixed (aCons (vI 0) (aCons (cst (.int 2)) (aNil)))) (aCons (cst (.int 6)) (aNil)))) (aNil)))) (skipS)) (seqS (forS (itR dRng1 (aCons (op2 dAdd (cst (.int 1)) (op2 dMod (op2 dDiv (vI 1) (cst (.int 4))) (cst (.int 3)))) (aNil))) (to1 4) (b_law_k64_1)) (retS (cst (.bl true)))))))
def f_law_k64 : List D → R D := runF p_law_k64 6
def b_rule_for_1 : Env → R Out := ifS (andT (tst (methS dStarts (vI 1) (aCons (op2 dIx (vI 3) (cst (.int 0))) (aNil)))) (orT (tst (op2 dIsN (vI 2) (cst .non))) (tst (op2 dGt (calls dLen (aCons (op2 dIx (vI 3) (cst (.int 0))) (aNil))) (calls dLen (aCons (op2 dIx (vI 2) (cst (.int 0))) (aNil))))))) (setS 2 (vI 3)) (skipS)
def p_rule_for : Env → R Out := seqS (setS 2 (cst .non)) (seqS (forS (itVn (vI 0)) (to1 3) (b_rule_for_1)) (retS (vI 2)))
def f_rule_for : List D → R D := runF p_rule_for 4
def p_judged : Env → R Out := seqS (ifS (tst (op2 dIsN (vI 0) (cst .non))) (retS (tupV (aCons (cst (.str [110, 111, 110, 101])) (aNil)))) (skipS)) (seqS (ifS (tst (op2 dEq (op2 dIx (vI 0) (cst (.int 1))) (cst (.int 0)))) (retS (tupV (aCons (cst (.str [99, 108, 111, 115, 101, 100])) (aNil)))) (skipS)) (seqS (ifS (tst (op2 dLt (vI 1) (op2 dIx (vI 0) (cst (.int 1))))) (retS (tupV (aCons (cst (.str [109, 111, 114, 101])) (aCons (op2 dSub (op2 dIx (vI 0) (cst (.int 1))) (vI 1)) (aNil))))) (skipS)) (seqS (ifS (tst (op2 dEq (vI 1) (op2 dIx (vI 0) (cst (.int 1))))) (retS (tupV (aCons (cst (.str [103, 111, 111, 100])) (aCons (op2 dIx (vI 0) (cst (.int 2))) (aNil))))) (skipS)) (retS (tupV (aCons (cst (.str [108, 111, 110, 103])) (aNil)))))))
def f_judged : List D → R D := runF p_judged 2
def p_says : Env → R Out := retS (callF 2 f_judged (aCons (callF 2 f_rule_for (aCons (vI 0) (aCons (vI 1) (aNil)))) (aCons (calls dLen (aCons (vI 1) (aNil))) (aNil))))
def f_says : List D → R D := runF p_says 2
def p_dialled : Env → R Out := retS (calls dTuple (aCons (compV (itR dRng2 (aCons (cst (.int 1)) (aCons (op2 dAdd (calls dLen (aCons (vI 1) (aNil))) (cst (.int 1))) (aNil)))) (to1 2) (yesT) (callF 2 f_says (aCons (vI 0) (aCons (slcV (vI 1) (oNo) (oSome (vI 2))) (aNil)))) [2]) (aNil)))
def f_dialled : List D → R D := runF p_dialled 3
def p_l_number : Env → R Out := seqS (setS 2 (cst (.str []))) (seqS (ifS (andT (tst (op2 dNe (vI 1) (tupV (aNil)))) (tst (op2 dGt (op2 dMod (op2 dDiv (vI 0) (cst (.int 16))) (cst (.int 3))) (cst (.int 0))))) (setS 2 (slcV (op2 dIx (op2 dIx (vI 1) (op2 dMod (op2 dDiv (vI 0) (cst (.int 64))) (calls dLen (aCons (vI 1) (aNil))))) (cst (.int 0))) (oNo) (oSome (op2 dMod (op2 dDiv (vI 0) (cst (.int 1024))) (cst (.int 8)))))) (skipS)) (seqS (setS 3 (op2 dAdd (vI 2) (callF 2 f_l_figures (aCons (callF 2 f_l_drawn (aCons (vI 0) (aCons (cst (.int 3)) (aNil)))) (aCons (cst (.int 6)) (aNil)))))) (retS (slcV (op2 dAdd (vI 3) (cst (.str [48]))) (oNo) (oSome (calls dMax2 (aCons (cst (.int 1)) (aCons (calls dMin2 (aCons (cst (.int 12)) (aCons (calls dLen (aCons (vI 3) (aNil))) (aNil)))) (aNil)))))))))
def f_l_number : List D → R D := runF p_l_number 4
def b_law_k16_1 : Env → R Out := seqS (parS [5, 6] (aCons (op2 dIx (vI 3) (op2 dSub (vI 4) (cst (.int 1)))) (aCons (op2 dIx (vI 3) (vI 4)) (aNil)))) (seqS (ifS (tst (op2 dNe (callF 2 f_rule_for (aCons (vI 1) (aCons (slcV (vI 2) (oNo) (oSome (vI 4))) (aNil)))) (callF 2 f_rule_for (aCons (vI 1) (aCons (slcV (vI 2) (oNo) (oSome (op2 dAdd (vI 4) (cst (.int 1))))) (aNil)))))) (cntS) (skipS)) (ifS (tst (op2 dEq (op2 dIx (vI 5) (cst (.int 0))) (cst (.str [109, 111, 114, 101])))) (seqS (setS 7 (tupV (aCons (cst (.str [109, 111, 114, 101])) (aCons (op2 dSub (op2 dIx (vI 5) (cst (.int 1))) (cst (.int 1))) (aNil))))) (seqS (ifS (tst (op2 dEq (op2 dIx (vI 5) (cst (.int 1))) (cst (.int 1)))) (seqS (setS 7 (tupV (aCons (cst (.str [103, 111, 111, 100])) (aCons (op2 dIx (callF 2 f_rule_for (aCons (vI 1) (aCons (vI 2) (aNil)))) (cst (.int 2))) (aNil))))) (ifS (tst (op2 dNe (callF 2 f_rule_for (aCons (vI 1) (aCons (vI 2) (aNil)))) (callF 2 f_rule_for (aCons (vI 1) (aCons (slcV (vI 2) (oNo) (oSome (op2 dAdd (vI 4) (cst (.int 1))))) (aNil)))))) (setS 7 (vI 6)) (skipS))) (skipS)) (ifS (orT (tst (op2 dNe (vI 6) (vI 7))) (tst (op2 dNotIn (op2 dIx (vI 6) (cst (.int 0))) (tupV (aCons (cst (.str [109, 111, 114, 101])) (aCons (cst (.str [103, 111, 111, 100])) (aNil))))))) (retS (cst (.bl false))) (skipS)))) (ifS (andT (tst (op2 dIn (op2 dIx (vI 5) (cst (.int 0))) (tupV (aCons (cst (.str [103, 111, 111, 100])) (aCons (cst (.str [108, 111, 110, 103])) (aNil)))))) (tst (op2 dNe (vI 6) (tupV (aCons (cst (.str [108, 111, 110, 103])) (aNil)))))) (retS (cst (.bl false))) (ifS (andT (tst (op2 dIn (op2 dIx (vI 5) (cst (.int 0))) (tupV (aCons (cst (.str [110, 111, 110, 101])) (aCons (cst (.str [99, 108, 111, 115, 101, 100])) (aNil)))))) (tst (op2 dNe (vI 6) (vI 5)))) (retS (cst (.bl false))) (skipS)))))
def p_law_k16 : Env → R Out := seqS (setS 1 (callF 2 f_l_table (aCons (callF 2 f_l_mixed (aCons (vI 0) (aCons (cst (.int 0)) (aNil)))) (aCons (cst (.int 8)) (aNil))))) (seqS (setS 2 (callF 2 f_l_number (aCons (callF 2 f_l_mixed (aCons (vI 0) (aCons (cst (.int 1)) (aNil)))) (aCons (vI 1) (aNil))))) (seqS (setS 3 (callF 2 f_dialled (aCons (vI 1) (aCons (vI 2) (aNil))))) (seqS (ifS (tst (op2 dNe (vI 3) (calls dTuple (aCons (compV (itR dRng2 (aCons (cst (.int 1)) (aCons (op2 dAdd (calls dLen (aCons (vI 2) (aNil))) (cst (.int 1))) (aNil)))) (to1 4) (yesT) (callF 2 f_says (aCons (vI 1) (aCons (slcV (vI 2) (oNo) (oSome (vI 4))) (aNil)))) [4]) (aNil))))) (retS (cst (.bl false))) (skipS)) (seqS (forS (itR dRng2 (aCons (cst (.int 1)) (aCons (calls dLen (aCons (vI 2) (aNil))) (aNil)))) (to1 4) (b_law_k16_1)) (retS (op2 dEq (calls dLen (aCons (vI 3) (aNil))) (calls dLen (aCons (vI 2) (aNil)))))))))
def f_law_k16 : List D → R D := runF p_law_k16 8
def b_behind_1 : Env → R Out := seqS (ifS (tst (op2 dGt (vI 4) (cst (.int 0)))) (setS 4 (op2 dAdd (vI 4) (calls dLen (aCons (vI 1) (aNil))))) (skipS)) (setS 2 (op2 dAdd (vI 2) (tupV (aCons (tupV (aCons (op2 dAdd (vI 1) (vI 3)) (aCons (vI 4) (aCons (vI 5) (aNil))))) (aNil)))))
def p_behind : Env → R Out := seqS (setS 2 (tupV (aNil))) (seqS (forS (itVn (vI 0)) (toN [3, 4, 5]) (b_behind_1)) (retS (vI 2)))
def f_behind : List D → R D := runF p_behind 6
def p_overlaid : Env → R Out := seqS (setS 2 (compV (itVn (vI 1)) (to1 3) (yesT) (op2 dIx (vI 3) (cst (.int 0))) [3])) (retS (calls dTuple (aCons (calls dSortedG (aCons (op2 dAdd (vI 1) (calls dTuple (aCons (compV (itVn (vI 0)) (to1 3) (tst (op2 dNotIn (op2 dIx (vI 3) (cst (.int 0))) (vI 2))) (vI 3) [3]) (aNil)))) (aNil))) (aNil))))
def f_overlaid : List D → R D := runF p_overlaid 4
def p_words_of : Env → R Out := retS (calls dTuple (aCons (calls dSS (aCons (compV (itVn (vI 0)) (to1 1) (tst (op2 dGt (op2 dIx (vI 1) (cst (.int 1))) (cst (.int 0)))) (op2 dIx (vI 1) (cst (.int 2))) [1]) (aNil))) (aNil)))
def f_words_of : List D → R D := runF p_words_of 2
def b_l_small_1 : Env → R Out := setS 4 (op2 dAdd (vI 4) (op2 dIx (cst (.str [48, 49, 50, 57])) (op2 dMod (op2 dDiv (callF 2 f_l_drawn (aCons (vI 3) (aCons (vI 5) (aNil)))) (cst (.int 16))) (cst (.int 4)))))
def b_l_small_2 : Env → R Out := seqS (setS 3 (callF 2 f_l_drawn (aCons (vI 0) (aCons (op2 dAdd (cst (.int 60)) (vI 2)) (aNil))))) (seqS (setS 4 (cst (.str []))) (seqS (forS (itR dRng1 (aCons (op2 dMod (op2 dDiv (vI 3) (cst (.int 16))) (cst (.int 4))) (aNil))) (to1 5) (b_l_small_1)) (seqS (ifS (tmpT 1 (andT (tst (op2 dNeE (vI 1) (cst (.dct [])))) (tst (op2 dGt (op2 dMod (op2 dDiv (vI 3) (cst (.int 4096))) (cst (.int 3))) (cst (.int 0)))))) (seqS (setS 6 (tmpV 1 (op2 dIx (calls dSortedG (aCons (vI 1) (aNil))) (op2 dMod (op2 dDiv (vI 3) (cst (.int 16384))) (calls dLen (aCons (vI 1) (aNil))))))) (setS 4 (slcV (op2 dAdd (vI 6) (op2 dIx (cst (.str [48, 49, 50, 57])) (op2 dMod (op2 dDiv (vI 3) (cst (.int 131072))) (cst (.int 4))))) (oNo) (oSome (cst (.int 3)))))) (skipS)) (seqS (setS 7 (op2 dAdd (calls dMax2 (aCons (cst (.int 1)) (aCons (calls dLen (aCons (vI 4) (aNil))) (aNil)))) (op2 dMod (op2 dDiv (vI 3) (cst (.int 64))) (cst (.int 3))))) (seqS (setS 8 (tupV (aCons (vI 4) (aCons (vI 7) (aCons (op2 dIx (tupV (aCons (cst (.str [97])) (aCons (cst (.str [97])) (aCons (cst (.str [98])) (aCons (cst (.str [99, 100])) (aNil)))))) (op2 dMod (op2 dDiv (vI 3) (cst (.int 256))) (cst (.int 4)))) (aNil)))))) (seqS (ifS (tst (op2 dEq (op2 dMod (op2 dDiv (vI 3) (cst (.int 1024))) (cst (.int 4))) (cst (.int 0)))) (setS 8 (tupV (aCons (vI 4) (aCons (cst (.int 0)) (aCons (cst (.str [])) (aNil)))))) (skipS)) (ifS (tst (op2 dLt (vI 7) (cst (.int 4)))) (putS 1 (vI 4) (vI 8)) (skipS))))))))
def p_l_small : Env → R Out := seqS (newMS 1) (seqS (forS (itR dRng1 (aCons (op2 dMod (vI 0) (cst (.int 6))) (aNil))) (to1 2) (b_l_small_2)) (frzS 1 (retS (calls dTuple (aCons (compV (itVn (calls dSortedG (aCons (vI 1) (aNil)))) (to1 4) (yesT) (op2 dGet (vI 1) (vI 4)) [4]) (aNil))))))
def f_l_small : List D → R D := runF p_l_small 9
def p_l_near : Env → R Out := seqS (ifS (orT (tst (op2 dEq (vI 0) (tupV (aNil)))) (tst (op2 dEq (op2 dMod (vI 1) (cst (.int 5))) (cst (.int 0))))) (retS (callF 1 f_l_small (aCons (op2 dDiv (vI 1) (cst (.int 5))) (aNil)))) (skipS)) (seqS (setS 2 (op2 dMod (op2 dDiv (vI 1) (cst (.int 8))) (calls dLen (aCons (vI 0) (aNil))))) (seqS (unpS [3, 4, 5] (op2 dIx (vI 0) (vI 2))) (seqS (ifS (tst (op2 dEq (op2 dMod (vI 1) (cst (.int 5))) (cst (.int 1)))) (retS (op2 dAdd (slcV (vI 0) (oNo) (oSome (vI 2))) (slcV (vI 0) (oSome (op2 dAdd (vI 2) (cst (.int 1)))) (oNo)))) (skipS)) (seqS (ifS (andT (tst (op2 dEq (op2 dMod (vI 1) (cst (.int 5))) (cst (.int 2)))) (tst (op2 dGt (vI 4) (cst (.int 0))))) (retS (op2 dAdd (op2 dAdd (slcV (vI 0) (oNo) (oSome (vI 2))) (tupV (aCons (tupV (aCons (vI 3) (aCons (vI 4) (aCons (op2 dIx (tupV (aCons (cst (.str [97])) (aCons (cst (.str [98])) (aCons (cst (.str [99, 100])) (aNil))))) (op2 dMod (op2 dDiv (vI 1) (cst (.int 64))) (cst (.int 3)))) (aNil))))) (aNil)))) (slcV (vI 0) (oSome (op2 dAdd (vI 2) (cst (.int 1)))) (oNo)))) (skipS)) (seqS (ifS (andT (tst (op2 dEq (op2 dMod (vI 1) (cst (.int 5))) (cst (.int 3)))) (tst (op2 dLe (calls dMax2 (aCons (cst (.int 1)) (aCons (calls dLen (aCons (vI 3) (aNil))) (aNil)))) (op2 dMod (op2 dDiv (vI 1) (cst (.int 64))) (cst (.int 4)))))) (seqS (setS 6 (tupV (aCons (vI 3) (aCons (op2 dMod (op2 dDiv (vI 1) (cst (.int 64))) (cst (.int 4))) (aCons (op2 dAdd (vI 5) (op2 dMulS (cst (.str [97])) (calls dInt1 (aCons (op2 dEq (vI 5) (cst (.str []))) (aNil))))) (aNil)))))) (retS (op2 dAdd (op2 dAdd (slcV (vI 0) (oNo) (oSome (vI 2))) (tupV (aCons (vI 6) (aNil)))) (slcV (vI 0) (oSome (op2 dAdd (vI 2) (cst (.int 1)))) (oNo))))) (skipS)) (retS (vI 0)))))))
def f_l_near : List D → R D := runF p_l_near 7
def p_law_k42 : Env → R Out := seqS (setS 1 (callF 2 f_l_table (aCons (callF 2 f_l_mixed (aCons (vI 0) (aCons (cst (.int 0)) (aNil)))) (aCons (cst (.int 6)) (aNil))))) (seqS (setS 2 (callF 2 f_l_table (aCons (callF 2 f_l_mixed (aCons (vI 0) (aCons (cst (.int 1)) (aNil)))) (aCons (cst (.int 6)) (aNil))))) (seqS (setS 3 (callF 2 f_l_near (aCons (vI 1) (aCons (callF 2 f_l_mixed (aCons (vI 0) (aCons (cst (.int 2)) (aNil)))) (aNil))))) (seqS (setS 4 (callF 2 f_l_mixed (aCons (vI 0) (aCons (cst (.int 3)) (aNil))))) (seqS (ifS (tst (op2 dNe (callF 2 f_overlaid (aCons (callF 2 f_overlaid (aCons (vI 1) (aCons (vI 2) (aNil)))) (aCons (vI 3) (aNil)))) (callF 2 f_overlaid (aCons (vI 1) (aCons (callF 2 f_overlaid (aCons (vI 2) (aCons (vI 3) (aNil)))) (aNil)))))) (retS (cst (.bl false))) (skipS)) (seqS (parS [5, 6] (aCons (op2 dIx (tupV (aCons (cst (.str [48])) (aCons (cst (.str [52, 52])) (aCons (cst (.str [57, 57, 57])) (aCons (cst (.str [])) (aNil)))))) (op2 dMod (vI 4) (cst (.int 4)))) (aCons (op2 dIx (tupV (aCons (cst (.str [49])) (aCons (cst (.str [55])) (aCons (cst (.str [50, 48])) (aCons (cst (.str [])) (aNil)))))) (op2 dMod (op2 dDiv (vI 4) (cst (.int 4))) (cst (.int 4)))) (aNil)))) (seqS (setS 7 (callF 2 f_overlaid (aCons (vI 1) (aCons (vI 2) (aNil))))) (seqS (ifS (tst (op2 dNe (callF 2 f_behind (aCons (vI 7) (aCons (vI 5) (aNil)))) (callF 2 f_overlaid (aCons (callF 2 f_behind (aCons (vI 1) (aCons (vI 5) (aNil)))) (aCons (callF 2 f_behind (aCons (vI 2) (aCons (vI 5) (aNil)))) (aNil)))))) (retS (cst (.bl false))) (skipS)) (seqS (ifS (orT (tst (op2 dNe (callF 2 f_behind (aCons (callF 2 f_behind (aCons (vI 1) (aCons (vI 5) (aNil)))) (aCons (vI 6) (aNil)))) (callF 2 f_behind (aCons (vI 1) (aCons (op2 dAdd (vI 6) (vI 5)) (aNil)))))) (tst (op2 dNe (callF 2 f_behind (aCons (vI 1) (aCons (cst (.str [])) (aNil)))) (vI 1)))) (retS (cst (.bl false))) (skipS)) (seqS (ifS (orT (tst (op2 dNe (vI 7) (callF 2 f_overlaid (aCons (vI 7) (aCons (vI 2) (aNil)))))) (orT (tst (op2 dNe (callF 2 f_overlaid (aCons (vI 2) (aCons (vI 7) (aNil)))) (vI 7))) (tst (op2 dNe (callF 2 f_overlaid (aCons (tupV (aNil)) (aCons (vI 2) (aNil)))) (vI 2))))) (retS (cst (.bl false))) (skipS)) (seqS (setS 8 (compV (itVn (vI 7)) (to1 9) (yesT) (op2 dIx (vI 9) (cst (.int 0))) [9])) (seqS (ifS (tst (op2 dNe (vI 8) (calls dSS (aCons (compV (itVn (op2 dAdd (vI 1) (vI 2))) (to1 9) (yesT) (op2 dIx (vI 9) (cst (.int 0))) [9]) (aNil))))) (retS (cst (.bl false))) (skipS)) (retS (op2 dEq (callF 1 f_words_of (aCons (callF 2 f_behind (aCons (vI 1) (aCons (vI 5) (aNil)))) (aNil))) (callF 1 f_words_of (aCons (vI 1) (aNil))))))))))))))))
def f_law_k42 : List D → R D := runF p_law_k42 10
def b_power_1 : Env → R Out := setS 1 (op2 dMul (cst (.int 10)) (vI 1))
def p_power : Env → R Out := seqS (setS 1 (cst (.int 1))) (seqS (forS (itR dRng1 (aCons (vI 0) (aNil))) (to1 2) (b_power_1)) (retS (vI 1)))
def f_power : List D → R D := runF p_power 3
def b_tops_below_1 : Env → R Out := ifS (tmpT 2 (notT (tst (calls dAny (aCons (compV (itVn (vI 2)) (to1 5) (yesT) (methS dStarts (vI 3) (aCons (vI 5) (aNil))) [5]) (aNil)))))) (appS 2 (vI 3)) (skipS)
def p_tops_below : Env → R Out := seqS (newLS 2 (aNil)) (seqS (forS (itVn (calls dSortedG (aCons (compV (itVn (vI 0)) (to1 4) (andT (tst (methS dStarts (op2 dIx (vI 4) (cst (.int 0))) (aCons (vI 1) (aNil)))) (tst (op2 dNe (op2 dIx (vI 4) (cst (.int 0))) (vI 1)))) (op2 dIx (vI 4) (cst (.int 0))) [4]) (aNil)))) (to1 3) (b_tops_below_1)) (frzS 2 (retS (vI 2))))
def f_tops_below : List D → R D := runF p_tops_below 6
def b_count_of_1 : Env → R Out := seqS (ifS (tst (methS dStarts (vI 4) (aCons (vI 6) (aNil)))) (retS (cst (.int 0))) (skipS)) (ifS (andT (tst (methS dStarts (vI 6) (aCons (vI 4) (aNil)))) (tst (op2 dLe (calls dLen (aCons (vI 6) (aNil))) (vI 2)))) (setS 5 (op2 dSub (vI 5) (callF 1 f_power (aCons (op2 dSub (vI 2) (calls dLen (aCons (vI 6) (aNil)))) (aNil))))) (skipS))
def p_count_of : Env → R Out := seqS (ifS (andT (notT (tst (methS dStarts (vI 1) (aCons (vI 3) (aNil))))) (notT (tst (methS dStarts (vI 3) (aCons (vI 1) (aNil)))))) (retS (cst (.int 0))) (skipS)) (seqS (setS 4 (vI 1)) (seqS (ifS (tst (op2 dGt (calls dLen (aCons (vI 3) (aNil))) (calls dLen (aCons (vI 1) (aNil))))) (setS 4 (vI 3)) (skipS)) (seqS (ifS (tst (op2 dGt (calls dLen (aCons (vI 4) (aNil))) (vI 2))) (retS (cst (.int 0))) (skipS)) (seqS (setS 5 (callF 1 f_power (aCons (op2 dSub (vI 2) (calls dLen (aCons (vI 4) (aNil)))) (aNil)))) (seqS (forS (itVn (callF 2 f_tops_below (aCons (vI 0) (aCons (vI 1) (aNil))))) (to1 6) (b_count_of_1)) (retS (vI 5)))))))
def f_count_of : List D → R D := runF p_count_of 7
def p_many_from : Env → R Out := retS (calls dSum (aCons (compV (itVn (vI 0)) (to1 3) (andT (tst (op2 dGt (op2 dIx (vI 3) (cst (.int 1))) (cst (.int 0)))) (tst (op2 dEq (op2 dIx (vI 3) (cst (.int 2))) (vI 1)))) (callF 4 f_count_of (aCons (vI 0) (aCons (op2 dIx (vI 3) (cst (.int 0))) (aCons (op2 dIx (vI 3) (cst (.int 1))) (aCons (vI 2) (aNil)))))) [3]) (aNil)))
def f_many_from : List D → R D := runF p_many_from 4
def p_live : Env → R Out := retS (calls dAny (aCons (compV (itVn (callF 1 f_words_of (aCons (vI 0) (aNil)))) (to1 2) (yesT) (op2 dGt (callF 3 f_many_from (aCons (vI 0) (aCons (vI 2) (aCons (vI 1) (aNil))))) (cst (.int 0))) [2]) (aNil)))
def f_live : List D → R D := runF p_live 3
def p_nexts : Env → R Out := retS (methS dJoin (cst (.str [])) (aCons (compV (itVn (cst (.str [48, 49, 50, 51, 52, 53, 54, 55, 56, 57]))) (to1 2) (tst (callF 2 f_live (aCons (vI 0) (aCons (op2 dAdd (vI 1) (vI 2)) (aNil))))) (vI 2) [2]) (aNil)))
def f_nexts : List D → R D := runF p_nexts 3
def b_law_k17_1 : Env → R Out := seqS (setS 7 (op2 dAdd (vI 3) (vI 6))) (seqS (ifS (tst (op2 dNe (callF 2 f_live (aCons (vI 1) (aCons (vI 7) (aNil)))) (op2 dIn (vI 6) (vI 5)))) (retS (cst (.bl false))) (skipS)) (ifS (andT (tst (op2 dNotIn (vI 6) (vI 5))) (tst (op2 dNe (callF 2 f_nexts (aCons (vI 1) (aCons (vI 7) (aNil)))) (cst (.str []))))) (retS (cst (.bl false))) (skipS)))
def b_law_k17_2 : Env → R Out := seqS (setS 5 (callF 2 f_nexts (aCons (vI 1) (aCons (vI 3) (aNil))))) (seqS (ifS (tst (op2 dNe (calls dListG (aCons (vI 5) (aNil))) (calls dSS (aCons (vI 5) (aNil))))) (retS (cst (.bl false))) (skipS)) (seqS (forS (itVn (cst (.str [48, 49, 50, 51, 52, 53, 54, 55, 56, 57]))) (to1 6) (b_law_k17_1)) (seqS (ifS (tst (op2 dEq (vI 5) (cst (.str [])))) (seqS (ifS (tst (op2 dEq (vI 3) (cst (.str [])))) (retS (op2 dIsB (callF 2 f_live (aCons (vI 1) (aCons (cst (.str [])) (aNil)))) (cst (.bl false)))) (skipS)) (retS (andV (op2 dIsB (callF 2 f_live (aCons (vI 1) (aCons (vI 3) (aNil)))) (cst (.bl true))) (op2 dEq (op2 dIx (callF 2 f_says (aCons (vI 1) (aCons (vI 3) (aNil)))) (cst (.int 0))) (cst (.str [103, 111, 111, 100])))))) (skipS)) (seqS (ifS (tst (op2 dIsnB (callF 2 f_live (aCons (vI 1) (aCons (vI 3) (aNil)))) (cst (.bl true)))) (retS (cst (.bl false))) (skipS)) (setS 3 (op2 dAdd (vI 3) (op2 dIx (vI 5) (op2 dMod (op2 dDiv (callF 2 f_l_drawn (aCons (vI 2) (aCons (vI 4) (aNil)))) (cst (.int 16))) (calls dLen (aCons (vI 5) (aNil)))))))))))
def p_law_k17 : Env → R Out := seqS (setS 1 (callF 2 f_l_table (aCons (callF 2 f_l_mixed (aCons (vI 0) (aCons (cst (.int 0)) (aNil)))) (aCons (cst (.int 8)) (aNil))))) (seqS (setS 2 (callF 2 f_l_mixed (aCons (vI 0) (aCons (cst (.int 1)) (aNil))))) (seqS (setS 3 (cst (.str []))) (seqS (forS (itR dRng1 (aCons (cst (.int 14)) (aNil))) (to1 4) (b_law_k17_2)) (retS (cst (.bl false))))))
def f_law_k17 : List D → R D := runF p_law_k17 8
def p_many : Env → R Out := retS (callF 3 f_many_from (aCons (vI 0) (aCons (vI 1) (aCons (cst (.str [])) (aNil)))))
def f_many : List D → R D := runF p_many 2
def p_l_turned : Env → R Out := retS (methS dJoin (cst (.str [])) (aCons (compV (itVn (vI 0)) (to1 2) (yesT) (op2 dIx (vI 1) (calls dIntG (aCons (vI 2) (aNil)))) [2]) (aNil)))
def f_l_turned : List D → R D := runF p_l_turned 3
def b_law_k14_1 : Env → R Out := seqS (setS 7 (callF 2 f_l_number (aCons (callF 2 f_l_drawn (aCons (vI 2) (aCons (vI 6) (aNil)))) (aCons (vI 1) (aNil))))) (seqS (setS 8 (callF 2 f_l_turned (aCons (vI 7) (aCons (vI 3) (aNil))))) (seqS (ifS (tst (op2 dNe (callF 2 f_says (aCons (vI 5) (aCons (vI 8) (aNil)))) (callF 2 f_says (aCons (vI 1) (aCons (vI 7) (aNil)))))) (retS (cst (.bl false))) (skipS)) (seqS (ifS (tst (op2 dNe (callF 2 f_dialled (aCons (vI 5) (aCons (vI 8) (aNil)))) (callF 2 f_dialled (aCons (vI 1) (aCons (vI 7) (aNil)))))) (retS (cst (.bl false))) (skipS)) (seqS (setS 9 (slcV (vI 7) (oNo) (oSome (op2 dSub (calls dLen (aCons (vI 7) (aNil))) (cst (.int 1)))))) (seqS (setS 10 (callF 2 f_l_turned (aCons (vI 9) (aCons (vI 3) (aNil))))) (seqS (ifS (tst (op2 dNe (callF 2 f_live (aCons (vI 5) (aCons (vI 10) (aNil)))) (callF 2 f_live (aCons (vI 1) (aCons (vI 9) (aNil)))))) (retS (cst (.bl false))) (skipS)) (ifS (tst (op2 dNe (calls dSortedH (aCons (callF 2 f_nexts (aCons (vI 5) (aCons (vI 10) (aNil)))) (aNil))) (calls dSortedH (aCons (callF 2 f_l_turned (aCons (callF 2 f_nexts (aCons (vI 1) (aCons (vI 9) (aNil)))) (aCons (vI 3) (aNil)))) (aNil))))) (retS (cst (.bl false))) (skipS))))))))
def b_law_k14_2 : Env → R Out := ifS (tst (op2 dNe (callF 2 f_many (aCons (vI 5) (aCons (vI 11) (aNil)))) (callF 2 f_many (aCons (vI 1) (aCons (vI 11) (aNil)))))) (retS (cst (.bl false))) (skipS)
def p_law_k14 : Env → R Out := seqS (setS 1 (callF 2 f_l_table (aCons (callF 2 f_l_mixed (aCons (vI 0) (aCons (cst (.int 0)) (aNil)))) (aCons (cst (.int 8)) (aNil))))) (seqS (setS 2 (callF 2 f_l_mixed (aCons (vI 0) (aCons (cst (.int 1)) (aNil))))) (seqS (setS 3 (op2 dIx (tupV (aCons (cst (.str [49, 50, 51, 52, 53, 54, 55, 56, 57, 48])) (aCons (cst (.str [57, 56, 55, 54, 53, 52, 51, 50, 49, 48])) (aCons (cst (.str [48, 49, 51, 50, 52, 53, 55, 54, 57, 56])) (aCons (cst (.str [53, 54, 55, 56, 57, 48, 49, 50, 51, 52])) (aNil)))))) (op2 dMod (vI 2) (cst (.int 4))))) (seqS (setS 4 (compV (itVn (vI 1)) (toN [12, 13, 11]) (yesT) (tupV (aCons (callF 2 f_l_turned (aCons (vI 12) (aCons (vI 3) (aNil)))) (aCons (vI 13) (aCons (vI 11) (aNil))))) [12, 13, 11])) (seqS (setS 5 (calls dTuple (aCons (calls dSortedG (aCons (vI 4) (aNil))) (aNil)))) (seqS (forS (itR dRng1 (aCons (cst (.int 6)) (aNil))) (to1 6) (b_law_k14_1)) (seqS (forS (itVn (callF 1 f_words_of (aCons (vI 1) (aNil)))) (to1 11) (b_law_k14_2)) (retS (op2 dEq (callF 1 f_words_of (aCons (vI 5) (aNil))) (callF 1 f_words_of (aCons (vI 1) (aNil)))))))))))
def f_law_k14 : List D → R D := runF p_law_k14 14
def b_crossing_1 : Env → R Out := ifS (tst (methS dStarts (vI 4) (aCons (vI 3) (aNil)))) (retS (tupV (aCons (vI 3) (aCons (vI 4) (aNil))))) (skipS)
def b_crossing_2 : Env → R Out := forS (itVn (slcV (vI 1) (oSome (op2 dAdd (vI 2) (cst (.int 1)))) (oNo))) (to1 4) (b_crossing_1)
def p_crossing : Env → R Out := seqS (setS 1 (compV (itVn (vI 0)) (toN [5, 6]) (yesT) (vI 5) [5, 6])) (seqS (forS (itR dEnumA (aCons (vI 1) (aNil))) (toN [2, 3]) (b_crossing_2)) (retS (cst .non)))
def f_crossing : List D → R D := runF p_crossing 7
def p_need_apart : Env → R Out := ifS (tst (op2 dNotN (callF 1 f_crossing (aCons (vI 0) (aNil))) (cst .non))) (erS 1) (skipS)
def f_need_apart : List D → R D := runF p_need_apart 1
def b_joined_1 : Env → R Out := setS 1 (op2 dAdd (vI 1) (callF 2 f_behind (aCons (vI 3) (aCons (vI 2) (aNil)))))
def p_joined : Env → R Out := seqS (dropS (callF 1 f_need_apart (aCons (vI 0) (aNil)))) (seqS (setS 1 (tupV (aNil))) (seqS (forS (itVn (vI 0)) (toN [2, 3]) (b_joined_1)) (retS (calls dTuple (aCons (calls dSortedG (aCons (vI 1) (aNil))) (aNil))))))
def f_joined : List D → R D := runF p_joined 4
def b_home_1 : Env → R Out := ifS (tst (methS dStarts (vI 1) (aCons (vI 2) (aNil)))) (retS (tupV (aCons (vI 2) (aCons (slcV (vI 1) (oSome (calls dLen (aCons (vI 2) (aNil)))) (oNo)) (aNil))))) (skipS)
def p_home : Env → R Out := seqS (dropS (callF 1 f_need_apart (aCons (vI 0) (aNil)))) (seqS (forS (itVn (vI 0)) (toN [2, 3]) (b_home_1)) (retS (cst .non)))
def f_home : List D → R D := runF p_home 4
def b_law_k41_1 : Env → R Out := seqS (setS 8 (callF 2 f_l_number (aCons (callF 2 f_l_drawn (aCons (vI 1) (aCons (vI 7) (aNil)))) (aCons (vI 6) (aNil))))) (ifS (orT (tst (op2 dNe (callF 2 f_says (aCons (vI 4) (aCons (op2 dAdd (vI 5) (vI 8)) (aNil)))) (callF 2 f_says (aCons (vI 6) (aCons (vI 8) (aNil)))))) (tst (op2 dNe (callF 2 f_home (aCons (vI 3) (aCons (op2 dAdd (vI 5) (vI 8)) (aNil)))) (tupV (aCons (vI 5) (aCons (vI 8) (aNil))))))) (retS (cst (.bl false))) (skipS))
def b_law_k41_2 : Env → R Out := forS (itR dRng1 (aCons (cst (.int 3)) (aNil))) (to1 7) (b_law_k41_1)
def b_law_k41_3 : Env → R Out := ifS (tst (op2 dNe (callF 2 f_many (aCons (vI 4) (aCons (vI 9) (aNil)))) (calls dSum (aCons (compV (itVn (vI 3)) (toN [5, 6]) (yesT) (callF 2 f_many (aCons (vI 6) (aCons (vI 9) (aNil)))) [5, 6]) (aNil))))) (retS (cst (.bl false))) (skipS)
def b_law_k41_4 : Env → R Out := seqS (setS 8 (callF 2 f_l_number (aCons (callF 2 f_l_drawn (aCons (vI 1) (aCons (op2 dAdd (cst (.int 10)) (vI 7)) (aNil)))) (aCons (op2 dIx (tupV (aCons (vI 10) (aCons (vI 11) (aNil)))) (op2 dMod (vI 7) (cst (.int 2)))) (aNil))))) (seqS (setS 13 (lstV (aCons (callF 2 f_rule_for (aCons (vI 10) (aCons (vI 8) (aNil)))) (aCons (callF 2 f_rule_for (aCons (vI 11) (aCons (vI 8) (aNil)))) (aNil))))) (ifS (andT (tst (op2 dNotN (op2 dIx (vI 13) (cst (.int 1))) (cst .non))) (orT (tst (op2 dIsN (op2 dIx (vI 13) (cst (.int 0))) (cst .non))) (tst (op2 dGe (calls dLen (aCons (op2 dIx (op2 dIx (vI 13) (cst (.int 1))) (cst (.int 0))) (aNil))) (calls dLen (aCons (op2 dIx (op2 dIx (vI 13) (cst (.int 0))) (cst (.int 0))) (aNil))))))) (ifS (tst (op2 dNe (callF 2 f_says (aCons (vI 12) (aCons (vI 8) (aNil)))) (callF 2 f_says (aCons (vI 11) (aCons (vI 8) (aNil)))))) (retS (cst (.bl false))) (skipS)) (ifS (tst (op2 dNe (callF 2 f_says (aCons (vI 12) (aCons (vI 8) (aNil)))) (callF 2 f_says (aCons (vI 10) (aCons (vI 8) (aNil)))))) (retS (cst (.bl false))) (skipS))))
def p_law_k41 : Env → R Out := seqS (setS 1 (callF 2 f_l_mixed (aCons (vI 0) (aCons (cst (.int 0)) (aNil))))) (seqS (setS 2 (op2 dIx (tupV (aCons (tupV (aCons (cst (.str [48])) (aCons (cst (.str [49])) (aCons (cst (.str [50, 48])) (aCons (cst (.str [50, 49])) (aNil)))))) (aCons (tupV (aCons (cst (.str [52, 52])) (aCons (cst (.str [52, 53])) (aCons (cst (.str [55])) (aCons (cst (.str [57, 48, 48])) (aNil)))))) (aCons (tupV (aCons (cst (.str [51])) (aNil))) (aCons (tupV (aCons (cst (.str [49, 50, 51, 52])) (aCons (cst (.str [49, 50, 51, 53])) (aCons (cst (.str [57, 57])) (aNil))))) (aNil)))))) (op2 dMod (vI 1) (cst (.int 4))))) (seqS (setS 3 (calls dTuple (aCons (compV (itR dEnumA (aCons (vI 2) (aNil))) (toN [7, 5]) (yesT) (tupV (aCons (vI 5) (aCons (callF 2 f_l_table (aCons (callF 2 f_l_mixed (aCons (vI 0) (aCons (op2 dAdd (cst (.int 1)) (vI 7)) (aNil)))) (aCons (cst (.int 6)) (aNil)))) (aNil)))) [7, 5]) (aNil)))) (seqS (ifS (tst (op2 dNotN (callF 1 f_crossing (aCons (vI 3) (aNil))) (cst .non))) (retS (cst (.bl false))) (skipS)) (seqS (setS 4 (callF 1 f_joined (aCons (vI 3) (aNil)))) (seqS (forS (itVn (vI 3)) (toN [5, 6]) (b_law_k41_2)) (seqS (ifS (orT (tst (op2 dNotN (callF 2 f_home (aCons (vI 3) (aCons (cst (.str [53, 53])) (aNil)))) (cst .non))) (orT (tst (op2 dNe (callF 2 f_says (aCons (vI 4) (aCons (cst (.str [53, 53, 53, 53])) (aNil)))) (tupV (aCons (cst (.str [110, 111, 110, 101])) (aNil))))) (tst (op2 dNe (callF 2 f_home (aCons (vI 3) (aCons (op2 dIx (vI 2) (cst (.int 0))) (aNil)))) (tupV (aCons (op2 dIx (vI 2) (cst (.int 0))) (aCons (cst (.str [])) (aNil)))))))) (retS (cst (.bl false))) (skipS)) (seqS (forS (itVn (tupV (aCons (cst (.str [97])) (aCons (cst (.str [98])) (aCons (cst (.str [99, 100])) (aCons (cst (.str [104, 111, 109, 101])) (aNil))))))) (to1 9) (b_law_k41_3)) (seqS (setS 10 (op2 dIx (op2 dIx (vI 3) (cst (.int 0))) (cst (.int 1)))) (seqS (setS 11 (op2 dIx (op2 dIx (vI 3) (cst (.int (-1)))) (cst (.int 1)))) (seqS (setS 12 (callF 2 f_overlaid (aCons (vI 10) (aCons (vI 11) (aNil))))) (seqS (ifS (orT (tst (op2 dNe (callF 2 f_overlaid (aCons (vI 10) (aCons (tupV (aNil)) (aNil)))) (vI 10))) (orT (tst (op2 dNe (callF 2 f_overlaid (aCons (tupV (aNil)) (aCons (vI 10) (aNil)))) (vI 10))) (orT (tst (op2 dNe (callF 2 f_overlaid (aCons (vI 10) (aCons (vI 10) (aNil)))) (vI 10))) (tst (op2 dNe (callF 2 f_behind (aCons (vI 10) (aCons (cst (.str [])) (aNil)))) (vI 10)))))) (retS (cst (.bl false))) (skipS)) (seqS (forS (itR dRng1 (aCons (cst (.int 5)) (aNil))) (to1 7) (b_law_k41_4)) (seqS (setS 14 (op2 dAdd (callF 1 f_words_of (aCons (vI 10) (aNil))) (callF 1 f_words_of (aCons (vI 11) (aNil))))) (seqS (ifS (tst (op2 dNe (compV (itVn (callF 1 f_words_of (aCons (vI 12) (aNil)))) (to1 9) (tst (op2 dNotIn (vI 9) (vI 14))) (vI 9) [9]) (lstV (aNil)))) (retS (cst (.bl false))) (skipS)) (retS (op2 dEq (callF 2 f_behind (aCons (callF 2 f_behind (aCons (vI 10) (aCons (cst (.str [49, 50])) (aNil)))) (aCons (cst (.str [51])) (aNil)))) (callF 2 f_behind (aCons (vI 10) (aCons (cst (.str [51, 49, 50])) (aNil))))))))))))))))))))
def f_law_k41 : List D → R D := runF p_law_k41 15
def b_parent_of_1 : Env → R Out := ifS (andT (tst (methS dStarts (op2 dIx (vI 1) (cst (.int 0))) (aCons (op2 dIx (vI 3) (cst (.int 0))) (aNil)))) (tst (op2 dNe (op2 dIx (vI 1) (cst (.int 0))) (op2 dIx (vI 3) (cst (.int 0)))))) (ifS (orT (tst (op2 dIsN (vI 2) (cst .non))) (tst (op2 dGt (calls dLen (aCons (op2 dIx (vI 3) (cst (.int 0))) (aNil))) (calls dLen (aCons (op2 dIx (vI 2) (cst (.int 0))) (aNil)))))) (setS 2 (vI 3)) (skipS)) (skipS)
def p_parent_of : Env → R Out := seqS (setS 2 (cst .non)) (seqS (forS (itVn (vI 0)) (to1 3) (b_parent_of_1)) (retS (vI 2)))
def f_parent_of : List D → R D := runF p_parent_of 4
def p_goods_by : Env → R Out := seqS (ifS (orT (tst (op2 dIsN (vI 2) (cst .non))) (orT (tst (op2 dEq (op2 dIx (vI 2) (cst (.int 1))) (cst (.int 0)))) (tst (op2 dEq (callF 4 f_count_of (aCons (vI 0) (aCons (vI 1) (aCons (op2 dIx (vI 2) (cst (.int 1))) (aCons (vI 1) (aNil)))))) (cst (.int 0)))))) (retS (cst .non)) (skipS)) (retS (slcV (vI 2) (oSome (cst (.int 1))) (oNo)))
def f_goods_by : List D → R D := runF p_goods_by 3
def p_is_idle : Env → R Out := retS (op2 dEq (callF 3 f_goods_by (aCons (vI 0) (aCons (op2 dIx (vI 1) (cst (.int 0))) (aCons (vI 1) (aNil))))) (callF 3 f_goods_by (aCons (vI 0) (aCons (op2 dIx (vI 1) (cst (.int 0))) (aCons (callF 2 f_parent_of (aCons (vI 0) (aCons (vI 1) (aNil)))) (aNil))))))
def f_is_idle : List D → R D := runF p_is_idle 2
def p_idle : Env → R Out := retS (calls dTuple (aCons (compV (itVn (vI 0)) (to1 1) (tst (callF 2 f_is_idle (aCons (vI 0) (aCons (vI 1) (aNil))))) (vI 1) [1]) (aNil)))
def f_idle : List D → R D := runF p_idle 2
def b_lean_1 : Env → R Out := ifS (tst (callF 2 f_is_idle (aCons (vI 1) (aCons (vI 2) (aNil))))) (setS 1 (calls dTuple (aCons (compV (itVn (vI 1)) (to1 3) (tst (op2 dNe (vI 3) (vI 2))) (vI 3) [3]) (aNil)))) (skipS)
def p_lean : Env → R Out := seqS (setS 1 (vI 0)) (seqS (forS (itVn (revT (vI 0))) (to1 2) (b_lean_1)) (retS (vI 1)))
def f_lean : List D → R D := runF p_lean 4
def p_is_good : Env → R Out := retS (op2 dEq (callF 2 f_says (aCons (vI 0) (aCons (vI 2) (aNil)))) (tupV (aCons (cst (.str [103, 111, 111, 100])) (aCons (vI 1) (aNil)))))
def f_is_good : List D → R D := runF p_is_good 3
def b_step_from_1 : Env → R Out := seqS (setS 5 (callF 3 f_many_from (aCons (vI 0) (aCons (vI 1) (aCons (op2 dAdd (vI 2) (vI 4)) (aNil)))))) (seqS (ifS (tst (op2 dLt (vI 3) (vI 5))) (retS (tupV (aCons (op2 dAdd (vI 2) (vI 4)) (aCons (vI 3) (aNil))))) (skipS)) (setS 3 (op2 dSub (vI 3) (vI 5))))
def p_step_from : Env → R Out := seqS (forS (itVn (cst (.str [48, 49, 50, 51, 52, 53, 54, 55, 56, 57]))) (to1 4) (b_step_from_1)) (erS 0)
def f_step_from : List D → R D := runF p_step_from 6
def b_nth_1 : Env → R Out := seqS (ifS (andT (tst (op2 dNe (vI 3) (cst (.str [])))) (tst (callF 3 f_is_good (aCons (vI 0) (aCons (vI 1) (aCons (vI 3) (aNil))))))) (setS 2 (op2 dSub (vI 2) (cst (.int 1)))) (skipS)) (unpS [3, 2] (callF 4 f_step_from (aCons (vI 0) (aCons (vI 1) (aCons (vI 3) (aCons (vI 2) (aNil)))))))
def p_nth : Env → R Out := seqS (ifS (tst (op2 dGe (vI 2) (callF 2 f_many (aCons (vI 0) (aCons (vI 1) (aNil)))))) (erS 0) (skipS)) (seqS (setS 3 (cst (.str []))) (seqS (whF (orT (tst (op2 dGt (vI 2) (cst (.int 0)))) (orT (tst (op2 dEq (vI 3) (cst (.str [])))) (notT (tst (callF 3 f_is_good (aCons (vI 0) (aCons (vI 1) (aCons (vI 3) (aNil))))))))) (b_nth_1) 40) (retS (vI 3))))
def f_nth : List D → R D := runF p_nth 4
def p_first_ones : Env → R Out := retS (calls dTuple (aCons (compV (itR dRng1 (aCons (calls dMin2 (aCons (vI 2) (aCons (callF 2 f_many (aCons (vI 0) (aCons (vI 1) (aNil)))) (aNil)))) (aNil))) (to1 3) (yesT) (callF 3 f_nth (aCons (vI 0) (aCons (vI 1) (aCons (vI 3) (aNil))))) [3]) (aNil)))
def f_first_ones : List D → R D := runF p_first_ones 4
def b_law_k13_1 : Env → R Out := ifS (orT (tst (op2 dNotIn (op2 dIx (vI 8) (vI 9)) (callF 2 f_nexts (aCons (vI 1) (aCons (slcV (vI 8) (oNo) (oSome (vI 9))) (aNil)))))) (notT (tst (callF 2 f_live (aCons (vI 1) (aCons (slcV (vI 8) (oNo) (oSome (vI 9))) (aNil))))))) (retS (cst (.bl false))) (skipS)
def b_law_k13_2 : Env → R Out := seqS (setS 5 (callF 2 f_many (aCons (vI 1) (aCons (vI 4) (aNil))))) (seqS (ifS (tst (op2 dNe (callF 2 f_many (aCons (vI 3) (aCons (vI 4) (aNil)))) (vI 5))) (retS (cst (.bl false))) (skipS)) (seqS (setS 6 (callF 3 f_first_ones (aCons (vI 1) (aCons (vI 4) (aCons (cst (.int 7)) (aNil)))))) (seqS (ifS (orT (tst (op2 dNe (calls dLen (aCons (vI 6) (aNil))) (calls dMin2 (aCons (cst (.int 7)) (aCons (vI 5) (aNil)))))) (orT (tst (op2 dNe (calls dListG (aCons (vI 6) (aNil))) (calls dSS (aCons (vI 6) (aNil))))) (tst (op2 dNe (callF 3 f_first_ones (aCons (vI 3) (aCons (vI 4) (aCons (cst (.int 7)) (aNil))))) (vI 6))))) (retS (cst (.bl false))) (skipS)) (seqS (ifS (tst (op2 dNe (compV (itVn (vI 6)) (to1 8) (orT (tst (op2 dNe (callF 2 f_says (aCons (vI 1) (aCons (vI 8) (aNil)))) (tupV (aCons (cst (.str [103, 111, 111, 100])) (aCons (vI 4) (aNil)))))) (tst (op2 dNe (callF 2 f_says (aCons (vI 3) (aCons (vI 8) (aNil)))) (tupV (aCons (cst (.str [103, 111, 111, 100])) (aCons (vI 4) (aNil))))))) (vI 8) [8]) (lstV (aNil)))) (retS (cst (.bl false))) (skipS)) (ifS (tst (op2 dGt (vI 5) (cst (.int 0)))) (seqS (setS 7 (op2 dMod (vI 2) (vI 5))) (seqS (setS 8 (callF 3 f_nth (aCons (vI 1) (aCons (vI 4) (aCons (vI 7) (aNil)))))) (seqS (ifS (orT (tst (op2 dNe (callF 2 f_says (aCons (vI 1) (aCons (vI 8) (aNil)))) (tupV (aCons (cst (.str [103, 111, 111, 100])) (aCons (vI 4) (aNil)))))) (tst (op2 dNe (callF 3 f_nth (aCons (vI 3) (aCons (vI 4) (aCons (vI 7) (aNil))))) (vI 8)))) (retS (cst (.bl false))) (skipS)) (seqS (ifS (orT (andT (tst (op2 dLt (vI 7) (cst (.int 7)))) (tst (op2 dNe (op2 dIx (vI 6) (vI 7)) (vI 8)))) (andT (tst (op2 dGe (vI 7) (cst (.int 7)))) (notT (tst (op2 dGt (vI 8) (op2 dIx (vI 6) (cst (.int 6)))))))) (retS (cst (.bl false))) (skipS)) (seqS (ifS (andT (tst (op2 dLt (op2 dAdd (vI 7) (cst (.int 1))) (vI 5))) (notT (tst (op2 dGt (callF 3 f_nth (aCons (vI 1) (aCons (vI 4) (aCons (op2 dAdd (vI 7) (cst (.int 1))) (aNil))))) (vI 8))))) (retS (cst (.bl false))) (skipS)) (forS (itR dRng1 (aCons (calls dLen (aCons (vI 8) (aNil))) (aNil))) (to1 9) (b_law_k13_1))))))) (skipS))))))
def p_law_k13 : Env → R Out := seqS (setS 1 (callF 2 f_l_table (aCons (callF 2 f_l_mixed (aCons (vI 0) (aCons (cst (.int 0)) (aNil)))) (aCons (cst (.int 9)) (aNil))))) (seqS (setS 2 (callF 2 f_l_mixed (aCons (vI 0) (aCons (cst (.int 1)) (aNil))))) (seqS (setS 3 (callF 1 f_lean (aCons (vI 1) (aNil)))) (seqS (ifS (orT (tst (op2 dNe (callF 1 f_idle (aCons (vI 3) (aNil))) (tupV (aNil)))) (orT (tst (op2 dNe (callF 1 f_lean (aCons (vI 3) (aNil))) (vI 3))) (tst (op2 dNe (compV (itVn (vI 3)) (to1 12) (tst (op2 dNotInP (vI 12) (vI 1))) (vI 12) [12]) (lstV (aNil)))))) (retS (cst (.bl false))) (skipS)) (seqS (ifS (tst (op2 dNe (op2 dEq (callF 1 f_idle (aCons (vI 1) (aNil))) (tupV (aNil))) (op2 dEq (vI 3) (vI 1)))) (retS (cst (.bl false))) (skipS)) (seqS (forS (itVn (callF 1 f_words_of (aCons (vI 1) (aNil)))) (to1 4) (b_law_k13_2)) (seqS (setS 10 (callF 2 f_l_number (aCons (callF 2 f_l_mixed (aCons (vI 0) (aCons (cst (.int 2)) (aNil)))) (aCons (vI 1) (aNil))))) (seqS (setS 11 (callF 2 f_nexts (aCons (vI 1) (aCons (vI 10) (aNil))))) (seqS (ifS (orT (tst (op2 dNe (callF 2 f_live (aCons (vI 1) (aCons (vI 10) (aNil)))) (orV (op2 dNe (vI 11) (cst (.str []))) (op2 dEq (op2 dIx (callF 2 f_says (aCons (vI 1) (aCons (vI 10) (aNil)))) (cst (.int 0))) (cst (.str [103, 111, 111, 100])))))) (tst (op2 dNe (calls dListG (aCons (vI 11) (aNil))) (calls dSS (aCons (vI 11) (aNil)))))) (retS (cst (.bl false))) (skipS)) (retS (op2 dEq (compV (itVn (cst (.str [48, 49, 50, 51, 52, 53, 54, 55, 56, 57]))) (to1 13) (tst (op2 dNe (callF 2 f_live (aCons (vI 1) (aCons (op2 dAdd (vI 10) (vI 13)) (aNil)))) (op2 dIn (vI 13) (vI 11)))) (vI 13) [13]) (lstV (aNil))))))))))))
def f_law_k13 : List D → R D := runF p_law_k13 14
def b_l_lands_1 : Env → R Out := setS 4 (op2 dAdd (vI 4) (op2 dIx (cst (.str [48, 49, 50, 51, 52, 53, 54, 55, 56, 57])) (op2 dMod (op2 dDiv (callF 2 f_l_drawn (aCons (vI 3) (aCons (vI 5) (aNil)))) (cst (.int 16))) (op2 dIx (tupV (aCons (cst (.int 3)) (aCons (cst (.int 10)) (aNil)))) (op2 dMod (op2 dDiv (vI 0) (cst (.int 16))) (cst (.int 2)))))))
def b_l_lands_2 : Env → R Out := seqS (setS 3 (callF 2 f_l_drawn (aCons (vI 0) (aCons (op2 dAdd (cst (.int 80)) (vI 2)) (aNil))))) (seqS (setS 4 (cst (.str []))) (seqS (forS (itR dRng1 (aCons (op2 dAdd (cst (.int 1)) (op2 dMod (op2 dDiv (vI 3) (cst (.int 16))) (cst (.int 4)))) (aNil))) (to1 5) (b_l_lands_1)) (putS 1 (vI 4) (callF 2 f_l_table (aCons (callF 2 f_l_drawn (aCons (vI 0) (aCons (op2 dAdd (cst (.int 90)) (vI 2)) (aNil)))) (aCons (cst (.int 4)) (aNil)))))))
def p_l_lands : Env → R Out := seqS (newMS 1) (seqS (forS (itR dRng1 (aCons (op2 dMod (vI 0) (cst (.int 5))) (aNil))) (to1 2) (b_l_lands_2)) (frzS 1 (retS (calls dTuple (aCons (compV (itVn (calls dSortedG (aCons (vI 1) (aNil)))) (to1 4) (yesT) (tupV (aCons (vI 4) (aCons (op2 dGet (vI 1) (vI 4)) (aNil)))) [4]) (aNil))))))
def f_l_lands : List D → R D := runF p_l_lands 6
def b_law_k43_1 : Env → R Out := ifS (tst (op2 dNe (op2 dEq (vI 6) (tupV (aCons (cst (.str [114, 101, 102, 117, 115, 101, 100])) (aCons (cst (.int 1)) (aNil))))) (op2 dNotN (vI 2) (cst .non)))) (retS (cst (.bl false))) (skipS)
def b_law_k43_2 : Env → R Out := setS 8 (op2 dAdd (vI 8) (compV (itVn (vI 7)) (to1 17) (andT (tst (op2 dLt (vI 9) (vI 17))) (tst (op2 dEq (slcV (vI 17) (oNo) (oSome (calls dLen (aCons (vI 9) (aNil))))) (vI 9)))) (tupV (aCons (vI 9) (aCons (vI 17) (aNil)))) [17]))
def b_law_k43_3 : Env → R Out := seqS (setS 12 (op2 dAdd (slcV (vI 1) (oNo) (oSome (vI 10))) (slcV (vI 1) (oSome (op2 dAdd (vI 10) (cst (.int 1)))) (oNo)))) (seqS (setS 13 (compV (itVn (vI 8)) (to1 9) (tst (op2 dNotIn (op2 dIx (vI 11) (cst (.int 0))) (vI 9))) (vI 9) [9])) (seqS (ifS (tst (op2 dNe (op2 dIsN (callF 1 f_crossing (aCons (vI 12) (aNil))) (cst .non)) (op2 dEq (vI 13) (lstV (aNil))))) (retS (cst (.bl false))) (skipS)) (ifS (tst (op2 dIsN (vI 2) (cst .non))) (seqS (setS 14 (callF 2 f_behind (aCons (op2 dIx (vI 11) (cst (.int 1))) (aCons (op2 dIx (vI 11) (cst (.int 0))) (aNil))))) (seqS (ifS (tst (op2 dNe (calls dTuple (aCons (calls dSortedG (aCons (op2 dAdd (callF 1 f_joined (aCons (vI 12) (aNil))) (vI 14)) (aNil))) (aNil))) (callF 1 f_joined (aCons (vI 1) (aNil))))) (retS (cst (.bl false))) (skipS)) (ifS (orT (tst (op2 dNe (callF 2 f_home (aCons (vI 1) (aCons (op2 dAdd (op2 dIx (vI 11) (cst (.int 0))) (vI 3)) (aNil)))) (tupV (aCons (op2 dIx (vI 11) (cst (.int 0))) (aCons (vI 3) (aNil)))))) (tst (op2 dNotN (callF 2 f_home (aCons (vI 12) (aCons (op2 dIx (vI 11) (cst (.int 0))) (aNil)))) (cst .non)))) (retS (cst (.bl false))) (skipS)))) (skipS))))
def p_law_k43 : Env → R Out := seqS (setS 1 (callF 1 f_l_lands (aCons (callF 2 f_l_mixed (aCons (vI 0) (aCons (cst (.int 0)) (aNil)))) (aNil)))) (seqS (setS 2 (callF 1 f_crossing (aCons (vI 1) (aNil)))) (seqS (setS 3 (op2 dAdd (callF 2 f_l_figures (aCons (callF 2 f_l_mixed (aCons (vI 0) (aCons (cst (.int 1)) (aNil)))) (aCons (cst (.int 6)) (aNil)))) (cst (.str [49])))) (seqS (setS 4 (tellV toldR (callF 1 f_joined (aCons (vI 1) (aNil))))) (seqS (setS 5 (tellV toldR (callF 2 f_home (aCons (vI 1) (aCons (vI 3) (aNil)))))) (seqS (forS (itVn (tupV (aCons (vI 4) (aCons (vI 5) (aNil))))) (to1 6) (b_law_k43_1)) (seqS (setS 7 (compV (itVn (vI 1)) (toN [15, 16]) (yesT) (vI 15) [15, 16])) (seqS (setS 8 (lstV (aNil))) (seqS (forS (itVn (vI 7)) (to1 9) (b_law_k43_2)) (seqS (ifS (tst (op2 dNe (vI 2) (op2 dIx (op2 dAdd (calls dSortedG (aCons (vI 8) (aNil))) (lstV (aCons (cst .non) (aNil)))) (cst (.int 0))))) (retS (cst (.bl false))) (skipS)) (seqS (forS (itR dEnumA (aCons (vI 1) (aNil))) (toN [10, 11]) (b_law_k43_3)) (retS (andV (op2 dIsN (callF 1 f_crossing (aCons (tupV (aNil)) (aNil))) (cst .non)) (andV (op2 dEq (callF 1 f_joined (aCons (tupV (aNil)) (aNil))) (tupV (aNil))) (op2 dIsN (callF 2 f_home (aCons (tupV (aNil)) (aCons (vI 3) (aNil)))) (cst .non)))))))))))))))
def f_law_k43 : List D → R D := runF p_law_k43 18
def b_l_all_k11_1 : Env → R Out := extS 4 (compV (itVn (cst (.str [48, 49, 50, 51, 52, 53, 54, 55, 56, 57]))) (to1 6) (yesT) (op2 dAdd (vI 5) (vI 6)) [6])
def b_l_all_k11_2 : Env → R Out := seqS (newLS 4 (aNil)) (seqS (forS (itVn (vI 2)) (to1 5) (b_l_all_k11_1)) (seqS (frzS 4 (setS 2 (vI 4))) (setS 1 (op2 dAdd (vI 1) (vI 2)))))
def p_l_all_k11 : Env → R Out := seqS (setS 1 (lstV (aNil))) (seqS (setS 2 (lstV (aCons (cst (.str [])) (aNil)))) (seqS (forS (itR dRng1 (aCons (vI 0) (aNil))) (to1 3) (b_l_all_k11_2)) (retS (vI 1))))
def f_l_all_k11 : List D → R D := runF p_l_all_k11 7
def b_l_rule_for_1 : Env → R Out := ifS (tst (op2 dEq (op2 dIx (vI 3) (cst (.int 0))) (slcV (vI 1) (oNo) (oSome (vI 2))))) (retS (vI 3)) (skipS)
def b_l_rule_for_2 : Env → R Out := forS (itVn (vI 0)) (to1 3) (b_l_rule_for_1)
def p_l_rule_for : Env → R Out := seqS (forS (itR dRng3 (aCons (calls dLen (aCons (vI 1) (aNil))) (aCons (cst (.int (-1))) (aCons (cst (.int (-1))) (aNil))))) (to1 2) (b_l_rule_for_2)) (retS (cst .non))
def f_l_rule_for : List D → R D := runF p_l_rule_for 4
def p_l_says : Env → R Out := seqS (setS 2 (callF 2 f_l_rule_for (aCons (vI 0) (aCons (vI 1) (aNil))))) (seqS (ifS (tst (op2 dIsN (vI 2) (cst .non))) (retS (tupV (aCons (cst (.str [110, 111, 110, 101])) (aNil)))) (skipS)) (seqS (ifS (tst (op2 dEq (op2 dIx (vI 2) (cst (.int 1))) (cst (.int 0)))) (retS (tupV (aCons (cst (.str [99, 108, 111, 115, 101, 100])) (aNil)))) (skipS)) (seqS (setS 3 (op2 dSub (op2 dIx (vI 2) (cst (.int 1))) (calls dLen (aCons (vI 1) (aNil))))) (seqS (ifS (tst (op2 dGt (vI 3) (cst (.int 0)))) (retS (tupV (aCons (cst (.str [109, 111, 114, 101])) (aCons (vI 3) (aNil))))) (skipS)) (retS (op2 dIx (lstV (aCons (tupV (aCons (cst (.str [108, 111, 110, 103])) (aNil))) (aCons (tupV (aCons (cst (.str [103, 111, 111, 100])) (aCons (op2 dIx (vI 2) (cst (.int 2))) (aNil)))) (aNil)))) (calls dInt1 (aCons (op2 dEq (vI 3) (cst (.int 0))) (aNil)))))))))
def f_l_says : List D → R D := runF p_l_says 4
def b_l_goods_1 : Env → R Out := seqS (setS 4 (callF 2 f_l_says (aCons (vI 0) (aCons (vI 3) (aNil))))) (ifS (tst (op2 dEq (op2 dIx (vI 4) (cst (.int 0))) (cst (.str [103, 111, 111, 100])))) (appS 2 (tupV (aCons (vI 3) (aCons (op2 dIx (vI 4) (cst (.int 1))) (aNil))))) (skipS))
def p_l_goods : Env → R Out := seqS (newLS 2 (aNil)) (seqS (forS (itVn (vI 1)) (to1 3) (b_l_goods_1)) (frzS 2 (retS (vI 2))))
def f_l_goods : List D → R D := runF p_l_goods 5
def b_law_k12_1 : Env → R Out := seqS (setS 6 (calls dTuple (aCons (compV (itVn (vI 1)) (to1 8) (tst (op2 dNe (vI 8) (vI 5))) (vI 8) [8]) (aNil)))) (ifS (tst (op2 dEq (callF 2 f_l_goods (aCons (vI 6) (aCons (vI 2) (aNil)))) (vI 3))) (appS 4 (vI 5)) (skipS))
def b_law_k12_2 : Env → R Out := seqS (setS 6 (calls dTuple (aCons (compV (itVn (vI 7)) (to1 8) (tst (op2 dNe (vI 8) (vI 5))) (vI 8) [8]) (aNil)))) (ifS (tst (op2 dEq (callF 2 f_l_goods (aCons (vI 6) (aCons (vI 2) (aNil)))) (vI 3))) (setS 7 (vI 6)) (skipS))
def p_law_k12 : Env → R Out := seqS (setS 1 (callF 1 f_l_small (aCons (callF 2 f_l_mixed (aCons (vI 0) (aCons (cst (.int 0)) (aNil)))) (aNil)))) (seqS (setS 2 (callF 1 f_l_all_k11 (aCons (cst (.int 3)) (aNil)))) (seqS (setS 3 (callF 2 f_l_goods (aCons (vI 1) (aCons (vI 2) (aNil))))) (seqS (newLS 4 (aNil)) (seqS (forS (itVn (vI 1)) (to1 5) (b_law_k12_1)) (seqS (ifS (tmpT 4 (tst (op2 dNe (callF 1 f_idle (aCons (vI 1) (aNil))) (calls dTuple (aCons (vI 4) (aNil)))))) (retS (cst (.bl false))) (skipS)) (seqS (setS 7 (vI 1)) (seqS (forS (itVn (revT (vI 1))) (to1 5) (b_law_k12_2)) (retS (op2 dEq (callF 1 f_lean (aCons (vI 1) (aNil))) (vI 7))))))))))
def f_law_k12 : List D → R D := runF p_law_k12 9
def b_law_k60_1 : Env → R Out := setS 3 (op2 dAdd (op2 dAdd (op2 dAdd (op2 dAdd (op2 dAdd (vI 3) (op2 dIx (lstV (aCons (vI 4) (aCons (cst (.str [42])) (aNil)))) (calls dInt1 (aCons (op2 dEq (vI 4) (cst (.str []))) (aNil))))) (cst (.str [32]))) (calls dStr (aCons (vI 5) (aNil)))) (op2 dIx (lstV (aCons (op2 dAdd (cst (.str [32])) (vI 6)) (aCons (cst (.str [])) (aNil)))) (calls dInt1 (aCons (op2 dEq (vI 5) (cst (.int 0))) (aNil))))) (cst (.str [10])))
def b_law_k60_2 : Env → R Out := setS 7 (op2 dAdd (op2 dAdd (op2 dAdd (op2 dAdd (vI 7) (vI 8)) (cst (.str [32]))) (op2 dIx (lstV (aCons (vI 6) (aCons (cst (.str [45])) (aNil)))) (calls dInt1 (aCons (op2 dIsN (vI 6) (cst .non)) (aNil))))) (cst (.str [10])))
def p_law_k60 : Env → R Out := seqS (setS 1 (callF 2 f_l_table (aCons (callF 2 f_l_mixed (aCons (vI 0) (aCons (cst (.int 0)) (aNil)))) (aCons (cst (.int 12)) (aNil))))) (seqS (setS 2 (callF 2 f_l_sample (aCons (callF 2 f_l_mixed (aCons (vI 0) (aCons (cst (.int 1)) (aNil)))) (aCons (cst (.int 12)) (aNil))))) (seqS (setS 3 (cst (.str []))) (seqS (forS (itVn (vI 1)) (toN [4, 5, 6]) (b_law_k60_1)) (seqS (setS 7 (cst (.str []))) (seqS (forS (itVn (vI 2)) (toN [8, 6]) (b_law_k60_2)) (seqS (ifS (orT (tst (op2 dNe (callF 1 f_table_text (aCons (vI 1) (aNil))) (vI 3))) (tst (op2 dNe (callF 1 f_sample_text (aCons (vI 2) (aNil))) (vI 7)))) (retS (cst (.bl false))) (skipS)) (seqS (ifS (orT (tst (op2 dNe (calls dRepr (aCons (callF 1 f_read_table (aCons (vI 3) (aNil))) (aNil))) (calls dRepr (aCons (vI 1) (aNil))))) (tst (op2 dNe (calls dRepr (aCons (callF 1 f_read_sample (aCons (vI 7) (aNil))) (aNil))) (calls dRepr (aCons (vI 2) (aNil)))))) (retS (cst (.bl false))) (skipS)) (seqS (setS 9 (callF 2 f_l_table (aCons (callF 2 f_l_mixed (aCons (vI 0) (aCons (cst (.int 2)) (aNil)))) (aCons (cst (.int 3)) (aNil))))) (seqS (setS 10 (callF 2 f_l_sample (aCons (callF 2 f_l_mixed (aCons (vI 0) (aCons (cst (.int 3)) (aNil)))) (aCons (cst (.int 3)) (aNil))))) (seqS (setS 8 (callF 2 f_l_mixed (aCons (vI 0) (aCons (cst (.int 4)) (aNil))))) (seqS (ifS (tst (op2 dNe (vI 1) (tupV (aNil)))) (seqS (setS 11 (op2 dMod (vI 8) (calls dLen (aCons (vI 1) (aNil))))) (setS 9 (op2 dIx (tupV (aCons (vI 9) (aCons (op2 dAdd (slcV (vI 1) (oNo) (oSome (vI 11))) (slcV (vI 1) (oSome (op2 dAdd (vI 11) (cst (.int 1)))) (oNo))) (aNil)))) (op2 dMod (op2 dDiv (vI 8) (cst (.int 64))) (cst (.int 2)))))) (skipS)) (seqS (ifS (tst (op2 dNe (vI 2) (tupV (aNil)))) (seqS (setS 11 (op2 dMod (vI 8) (calls dLen (aCons (vI 2) (aNil))))) (seqS (setS 12 (tupV (aCons (op2 dIx (op2 dIx (vI 2) (vI 11)) (cst (.int 0))) (aCons (op2 dIx (tupV (aCons (cst (.str [97])) (aCons (cst .non) (aCons (cst (.str [98])) (aNil))))) (op2 dMod (op2 dDiv (vI 8) (cst (.int 256))) (cst (.int 3)))) (aNil))))) (setS 10 (op2 dIx (tupV (aCons (vI 10) (aCons (op2 dAdd (op2 dAdd (slcV (vI 2) (oNo) (oSome (vI 11))) (tupV (aCons (vI 12) (aNil)))) (slcV (vI 2) (oSome (op2 dAdd (vI 11) (cst (.int 1)))) (oNo))) (aNil)))) (op2 dMod (op2 dDiv (vI 8) (cst (.int 1024))) (cst (.int 2))))))) (skipS)) (seqS (ifS (orT (tst (op2 dNe (op2 dEq (callF 1 f_table_text (aCons (vI 9) (aNil))) (vI 3)) (op2 dEq (vI 9) (vI 1)))) (tst (op2 dNe (callF 1 f_read_table (aCons (callF 1 f_table_text (aCons (vI 9) (aNil))) (aNil))) (vI 9)))) (retS (cst (.bl false))) (skipS)) (retS (andV (op2 dEq (op2 dEq (callF 1 f_sample_text (aCons (vI 10) (aNil))) (vI 7)) (op2 dEq (vI 10) (vI 2))) (op2 dEq (callF 1 f_read_sample (aCons (callF 1 f_sample_text (aCons (vI 10) (aNil))) (aNil))) (vI 10)))))))))))))))))
def f_law_k60 : List D → R D := runF p_law_k60 13
def p_l_changed : Env → R Out := seqS (setS 2 (op2 dMod (op2 dDiv (vI 1) (cst (.int 16))) (op2 dAdd (calls dLen (aCons (vI 0) (aNil))) (cst (.int 1))))) (seqS (setS 3 (op2 dIx (cst (.str [48, 49, 50, 57, 97, 98, 42, 45, 32, 10, 122])) (op2 dMod (op2 dDiv (vI 1) (cst (.int 4096))) (cst (.int 11))))) (seqS (ifS (tst (op2 dEq (op2 dMod (vI 1) (cst (.int 4))) (cst (.int 0)))) (retS (op2 dAdd (op2 dAdd (slcV (vI 0) (oNo) (oSome (vI 2))) (vI 3)) (slcV (vI 0) (oSome (vI 2)) (oNo)))) (skipS)) (seqS (ifS (tst (op2 dEq (op2 dMod (vI 1) (cst (.int 4))) (cst (.int 1)))) (retS (op2 dAdd (slcV (vI 0) (oNo) (oSome (vI 2))) (slcV (vI 0) (oSome (op2 dAdd (vI 2) (cst (.int 1)))) (oNo)))) (skipS)) (seqS (ifS (tst (op2 dEq (op2 dMod (vI 1) (cst (.int 4))) (cst (.int 2)))) (retS (op2 dAdd (op2 dAdd (slcV (vI 0) (oNo) (oSome (vI 2))) (vI 3)) (slcV (vI 0) (oSome (op2 dAdd (vI 2) (cst (.int 1)))) (oNo)))) (skipS)) (retS (op2 dAdd (slcV (vI 0) (oNo) (oSome (vI 2))) (slcV (vI 0) (oSome (op2 dAdd (vI 2) (op2 dMod (op2 dDiv (vI 1) (cst (.int 64))) (cst (.int 9))))) (oNo))))))))
def f_l_changed : List D → R D := runF p_l_changed 4
def b_law_k61_1 : Env → R Out := seqS (setS 2 (callF 2 f_l_changed (aCons (vI 2) (aCons (callF 2 f_l_mixed (aCons (vI 0) (aCons (op2 dAdd (cst (.int 3)) (vI 4)) (aNil)))) (aNil))))) (setS 3 (callF 2 f_l_changed (aCons (vI 3) (aCons (callF 2 f_l_mixed (aCons (vI 0) (aCons (op2 dAdd (cst (.int 5)) (vI 4)) (aNil)))) (aNil)))))
def b_law_k61_2 : Env → R Out := seqS (setS 11 (tellV toldR (callF 1 f_read_table (aCons (vI 10) (aNil))))) (seqS (ifS (tst (op2 dEq (op2 dIx (vI 11) (cst (.int 0))) (cst (.str [116, 111, 108, 100])))) (ifS (orT (notT (tst (callF 1 f_is_table (aCons (op2 dIx (vI 11) (cst (.int 1))) (aNil))))) (tst (op2 dNe (callF 1 f_table_text (aCons (op2 dIx (vI 11) (cst (.int 1))) (aNil))) (vI 10)))) (retS (cst (.bl false))) (skipS)) (ifS (tst (op2 dNe (vI 11) (tupV (aCons (cst (.str [114, 101, 102, 117, 115, 101, 100])) (aCons (cst (.int 3)) (aNil)))))) (retS (cst (.bl false))) (skipS))) (seqS (setS 11 (tellV toldR (callF 1 f_read_sample (aCons (vI 10) (aNil))))) (ifS (tst (op2 dEq (op2 dIx (vI 11) (cst (.int 0))) (cst (.str [116, 111, 108, 100])))) (ifS (orT (notT (tst (callF 1 f_l_is_sample (aCons (op2 dIx (vI 11) (cst (.int 1))) (aNil))))) (tst (op2 dNe (callF 1 f_sample_text (aCons (op2 dIx (vI 11) (cst (.int 1))) (aNil))) (vI 10)))) (retS (cst (.bl false))) (skipS)) (ifS (tst (op2 dNe (vI 11) (tupV (aCons (cst (.str [114, 101, 102, 117, 115, 101, 100])) (aCons (cst (.int 3)) (aNil)))))) (retS (cst (.bl false))) (skipS)))))
def p_law_k61 : Env → R Out := seqS (setS 1 (callF 2 f_l_mixed (aCons (vI 0) (aCons (cst (.int 0)) (aNil))))) (seqS (setS 2 (callF 1 f_table_text (aCons (callF 2 f_l_table (aCons (callF 2 f_l_mixed (aCons (vI 0) (aCons (cst (.int 1)) (aNil)))) (aCons (cst (.int 6)) (aNil)))) (aNil)))) (seqS (setS 3 (callF 1 f_sample_text (aCons (callF 2 f_l_sample (aCons (callF 2 f_l_mixed (aCons (vI 0) (aCons (cst (.int 2)) (aNil)))) (aCons (cst (.int 6)) (aNil)))) (aNil)))) (seqS (forS (itR dRng1 (aCons (op2 dMod (vI 1) (cst (.int 3))) (aNil))) (to1 4) (b_law_k61_1)) (seqS (setS 5 (tupV (aCons (cst (.str [])) (aCons (cst (.str [10])) (aCons (cst (.str [42, 32, 48, 10])) (aCons (cst (.str [42, 32, 51, 32, 97, 10])) (aCons (cst (.str [32, 51, 32, 97, 10])) (aCons (cst (.str [49, 50, 32, 49, 32, 97, 10])) (aCons (cst (.str [49, 50, 32, 48, 50, 32, 97, 10])) (aCons (cst (.str [49, 50, 32, 48, 32, 97, 10])) (aNil))))))))))) (seqS (setS 5 (op2 dAdd (vI 5) (tupV (aCons (cst (.str [49, 50, 32, 50, 10])) (aCons (cst (.str [49, 32, 51, 32, 97, 10, 48, 32, 51, 32, 97, 10])) (aNil)))))) (seqS (setS 5 (op2 dAdd (vI 5) (tupV (aCons (cst (.str [48, 32, 51, 32, 97, 10, 49, 32, 51, 32, 97, 10])) (aCons (cst (.str [49, 32, 45, 10])) (aCons (cst (.str [42, 32, 45, 10])) (aCons (cst (.str [49, 32, 97, 10, 49, 32, 98, 10])) (aCons (cst (.str [49, 32, 97, 10, 50, 32, 98, 10])) (aNil))))))))) (seqS (setS 5 (op2 dAdd (vI 5) (tupV (aCons (cst (.str [49, 50, 32, 49, 51, 32, 97, 10])) (aCons (cst (.str [49, 32, 97, 98, 99, 100, 101, 10])) (aCons (cst (.str [49, 32, 51, 32, 97])) (aNil))))))) (seqS (setS 6 (methS dJoin (cst (.str [])) (aCons (compV (itR dRng1 (aCons (op2 dAdd (cst (.int 15)) (op2 dMod (vI 1) (cst (.int 3)))) (aNil))) (to1 4) (yesT) (op2 dAdd (calls dStr (aCons (op2 dAdd (cst (.int 10)) (vI 4)) (aNil))) (cst (.str [32, 97, 10]))) [4]) (aNil)))) (seqS (ifS (tst (op2 dNe (op2 dEq (op2 dIx (tellV toldR (callF 1 f_read_sample (aCons (vI 6) (aNil)))) (cst (.int 0))) (cst (.str [116, 111, 108, 100]))) (op2 dLt (op2 dMod (vI 1) (cst (.int 3))) (cst (.int 2))))) (retS (cst (.bl false))) (skipS)) (seqS (setS 7 (tupV (aCons (cst (.int 0)) (aCons (cst (.int 2)) (aCons (cst (.int 3)) (aCons (cst (.int 10)) (aNil))))))) (seqS (setS 8 (tupV (aCons (cst (.int 0)) (aCons (cst (.int 11)) (aCons (cst (.int 14)) (aNil)))))) (seqS (setS 9 (op2 dMod (op2 dDiv (vI 1) (cst (.int 8))) (cst (.int 18)))) (seqS (ifS (tst (op2 dNe (op2 dEq (op2 dIx (tellV toldR (callF 1 f_read_table (aCons (op2 dIx (vI 5) (vI 9)) (aNil)))) (cst (.int 0))) (cst (.str [116, 111, 108, 100]))) (op2 dIn (vI 9) (vI 7)))) (retS (cst (.bl false))) (skipS)) (seqS (ifS (tst (op2 dNe (op2 dEq (op2 dIx (tellV toldR (callF 1 f_read_sample (aCons (op2 dIx (vI 5) (vI 9)) (aNil)))) (cst (.int 0))) (cst (.str [116, 111, 108, 100]))) (op2 dIn (vI 9) (vI 8)))) (retS (cst (.bl false))) (skipS)) (seqS (forS (itVn (tupV (aCons (vI 2) (aCons (vI 3) (aCons (op2 dIx (vI 5) (vI 9)) (aNil)))))) (to1 10) (b_law_k61_2)) (retS (cst (.bl true))))))))))))))))))
def f_law_k61 : List D → R D := runF p_law_k61 12
end DD

namespace DD
open PySem PySem.Spec PyProof.Rows L2

/-! ### the draws of all laws -/
def cell (ns : List Int) (k : Nat) : Int := ns.getD k 0
theorem l_cell_at (ns : List Int) (k : Nat) : f_l_cell_at [.scr ns, .int k] = .ok (.int (cell ns k)) := by
  show (p_l_cell_at [.d (.scr ns), .d (.int k)]).bind finF = _
  unfold p_l_cell_at
  by_cases h : (k : Int) < ns.length
  · obtain ⟨x, h1, h2⟩ := atI_ok (xs := ns) (i := (k : Int)) (by omega) h
    have : cell ns k = x := by
      unfold cell
      rw [List.getD_eq_getElem?_getD]
      simp at h2
      simp [h2]
    simp [h, h1, this]
  · have : cell ns k = 0 := by
      unfold cell
      rw [List.getD_eq_getElem?_getD, List.getElem?_eq_none (by omega)]
      rfl
    simp [h, this]
def mixed (ns : List Int) (k : Nat) : Int :=
  let d := (cell ns k + 7919 * k + 1) * 48271 % 2147483647
  (d * d + 7 * d + k) % 2147483629
def drawn (n k : Int) : Int :=
  let d := (n + 104729 * k + 17) * 69621 % 2147483647
  (d * d + 3 * d + k) % 2147483629
theorem l_mixed (ns : List Int) (k : Nat) : f_l_mixed [.scr ns, .int k] = .ok (.int (mixed ns k)) := by
  show (p_l_mixed [.d (.scr ns), .d (.int k), .no]).bind finF = _
  unfold p_l_mixed
  simp [l_cell_at]
  rw [dMul_ok (.inl (by decide)), bind_ok, dAdd_int, bind_ok, dAdd_int, bind_ok, dMul_ok (.inr (by decide)), bind_ok, dMod_ok (by decide), bind_ok]
  simp
  rw [dMul_ok (.inl (by omega)), bind_ok, dMul_ok (.inl (by decide)), bind_ok, dAdd_int, bind_ok, dAdd_int, bind_ok, dMod_ok (by decide), bind_ok]
  simp [mixed]
theorem l_drawn (n k : Int) : f_l_drawn [.int n, .int k] = .ok (.int (drawn n k)) := by
  show (p_l_drawn [.d (.int n), .d (.int k), .no]).bind finF = _
  unfold p_l_drawn
  simp
  rw [dMul_ok (.inl (by decide)), bind_ok, dAdd_int, bind_ok, dAdd_int, bind_ok, dMul_ok (.inr (by decide)), bind_ok, dMod_ok (by decide), bind_ok]
  simp
  rw [dMul_ok (.inl (by omega)), bind_ok, dMul_ok (.inl (by decide)), bind_ok, dAdd_int, bind_ok, dAdd_int, bind_ok, dMod_ok (by decide), bind_ok]
  simp [drawn]
theorem mixed_nn (ns : List Int) (k : Nat) : 0 ≤ mixed ns k ∧ mixed ns k < 2147483629 := by
  unfold mixed
  exact ⟨Int.emod_nonneg _ (by decide), Int.emod_lt_of_pos _ (by decide)⟩
theorem drawn_nn (n k : Int) : 0 ≤ drawn n k ∧ drawn n k < 2147483629 := by
  unfold drawn
  exact ⟨Int.emod_nonneg _ (by decide), Int.emod_lt_of_pos _ (by decide)⟩
theorem atI_in {α : Type} {xs : List α} {i : Int} (h : 0 ≤ i) (h2 : i < xs.length) : ∃ x, atI xs i = some x ∧ x ∈ xs := by
  obtain ⟨x, h1, _⟩ := atI_ok h h2
  exact ⟨x, h1, atI_mem h1⟩
abbrev Dig (c : Nat) : Prop := 48 ≤ c ∧ c ≤ 57
abbrev Digs (s : List Nat) : Prop := ∀ c ∈ s, Dig c
theorem rngL_eq (lo : Int) (n : Nat) : rngL lo n = ((List.range n).map fun i => lo + (i : Nat)).map D.int := by
  unfold rngL
  rw [List.map_map]
  rfl
theorem digs_mem : ∀ c ∈ [48, 49, 50, 51, 52, 53, 54, 55, 56, 57], Dig c := by decide
/-- one figure of a text of ten, two or three -/
theorem pick_fig (n v : Int) (hn : 0 ≤ n) (hv : 0 ≤ v) : ∃ b c, atI [D.int 2, .int 3, .int 10] (n / 16 % 3) = some (.int b) ∧ 0 < b ∧ atI [48, 49, 50, 51, 52, 53, 54, 55, 56, 57] (v / 16 % b) = some c ∧ Dig c := by
  obtain ⟨x, h1, h2⟩ := atI_in (xs := [D.int 2, .int 3, .int 10]) (i := n / 16 % 3) (by omega) (by simp; omega)
  have : ∃ b : Int, x = .int b ∧ 0 < b ∧ b ≤ 10 := by
    simp at h2
    rcases h2 with h | h | h
    · exact ⟨2, h, by omega, by omega⟩
    · exact ⟨3, h, by omega, by omega⟩
    · exact ⟨10, h, by omega, by omega⟩
  obtain ⟨b, rfl, hb, hb2⟩ := this
  have g1 : 0 ≤ v / 16 % b := Int.emod_nonneg _ (by omega)
  have g2 : v / 16 % b < b := Int.emod_lt_of_pos _ hb
  obtain ⟨c, h3, h4⟩ := atI_in (xs := [48, 49, 50, 51, 52, 53, 54, 55, 56, 57]) (i := v / 16 % b) g1 (by simp; omega)
  exact ⟨b, c, h1, hb, h3, digs_mem c h4⟩
theorem figures_loop (n : Int) (m : D) (hn : 0 ≤ n) : ∀ (ks : List Int) (s : List Nat) (x : Slot), Digs s → s.length + ks.length ≤ 1000 →
    ∃ t x', forF (to1 3) b_l_figures_1 (ks.map D.int) [.d (.int n), .d m, .d (.str s), x] = .ok (.nx [.d (.int n), .d m, .d (.str t), x']) ∧ Digs t ∧ t.length = s.length + ks.length
  | [], s, x, hs, _ => ⟨s, x, rfl, hs, rfl⟩
  | k :: ks, s, x, hs, hl => by
    obtain ⟨b, c, h1, h2, h3, h4⟩ := pick_fig n (drawn n k) hn (drawn_nn n k).1
    have hl' : s.length + (ks.length + 1) ≤ 1000 := hl
    have hd : Digs (s ++ [c]) := fun z hz => by
      rcases List.mem_append.mp hz with h | h
      · exact hs z h
      · have : z = c := by simpa using h
        rw [this]
        exact h4
    obtain ⟨t, x', e, ht, htl⟩ := figures_loop n m hn ks (s ++ [c]) (.d (.int k)) hd (by rw [List.length_append, List.length_singleton]; omega)
    refine ⟨t, x', ?_, ht, by rw [htl, List.length_append, List.length_singleton, List.length_cons]; omega⟩
    rw [List.map_cons, forF_step (ρ2 := [.d (.int n), .d m, .d (.str (s ++ [c])), .d (.int k)]) rfl (.inl ?_), e]
    unfold b_l_figures_1
    simp [l_drawn, dDiv_ok, dMod_ok, h1, h2, h3]
    rw [dAdd_str (by unfold line; rw [List.length_singleton]; omega)]
    simp
theorem l_figures (n : Int) (m : Nat) (hn : 0 ≤ n) (hm : m ≤ 900) : ∃ s, f_l_figures [.int n, .int m] = .ok (.str s) ∧ Digs s ∧ (s.length : Int) = n % (m + 1) := by
  have g1 : 0 ≤ n % ((m : Int) + 1) := Int.emod_nonneg _ (by omega)
  have g2 : n % ((m : Int) + 1) < m + 1 := Int.emod_lt_of_pos _ (by omega)
  obtain ⟨r, hr⟩ : ∃ r : Nat, n % ((m : Int) + 1) = r := ⟨(n % ((m : Int) + 1)).toNat, by omega⟩
  obtain ⟨t, x', e, ht, htl⟩ := figures_loop n (.int m) hn ((List.range r).map fun i => 0 + (i : Nat)) [] .no (fun _ h => nomatch h) (by simp; omega)
  refine ⟨t, ?_, ht, by rw [htl, hr]; simp⟩
  show (p_l_figures [.d (.int n), .d (.int m), .no, .no]).bind finF = _
  unfold p_l_figures
  simp only [seqS_eq, setS_eq, cst_eq, bind_ok, seqO_nx, forS_eq, itR_eq, aCons_eq, aNil_eq, op2_eq, vI_zero, vI_succ, List.set_cons_succ, List.set_cons_zero, dAdd_int]
  rw [dMod_ok (by omega), bind_ok, hr, bind_ok, dRng1_ok (by unfold line; omega), bind_ok, rngL_eq, e]
  simp
end DD

namespace DD
open PySem PySem.Spec PyProof.Rows L2

/-! ### rules and tables -/
structure Rule where
  p : List Nat
  s : Int
  w : List Nat
  deriving DecidableEq
def ruleD (r : Rule) : D := .tup [.str r.p, .int r.s, .str r.w]
def tabD (t : List Rule) : D := .tup (t.map ruleD)
def words4 : List (List Nat) := [[97], [98], [99, 100], [104, 111, 109, 101]]
structure RuleOk (r : Rule) : Prop where
  dig : Digs r.p
  len : r.p.length ≤ 7
  body : (r.s = 0 ∧ r.w = []) ∨ (1 ≤ r.s ∧ r.s ≤ 12 ∧ (r.p.length : Int) ≤ r.s ∧ r.w ∈ words4)
theorem l_rule (n : Int) (hn : 0 ≤ n) : ∃ r, f_l_rule [.int n] = .ok (ruleD r) ∧ RuleOk r := by
  obtain ⟨x, h1, h2⟩ := atI_in (xs := [D.int 2, .int 4, .int 7]) (i := n / 16384 % 3) (by omega) (by simp; omega)
  have : ∃ b : Nat, x = .int b ∧ b ≤ 7 := by
    simp at h2
    rcases h2 with h | h | h
    · exact ⟨2, h, by omega⟩
    · exact ⟨4, h, by omega⟩
    · exact ⟨7, h, by omega⟩
  obtain ⟨b, rfl, hb⟩ := this
  obtain ⟨s, e1, ds, ls⟩ := l_figures n b hn (by omega)
  have g0 := drawn_nn n 40
  have ls' : s.length ≤ 7 := by
    have : n % ((b : Int) + 1) < b + 1 := Int.emod_lt_of_pos _ (by omega)
    omega
  generalize hd : drawn n 40 / 16 = d at *
  have hd0 : 0 ≤ d := by omega
  have run : f_l_rule [.int n] = (p_l_rule [.d (.int n), .no, .no, .no]).bind finF := rfl
  rw [run]
  unfold p_l_rule
  by_cases h5 : d % 5 = 0
  · refine ⟨⟨s, 0, []⟩, ?_, ds, ls', .inl ⟨rfl, rfl⟩⟩
    simp [dDiv_ok, dMod_ok, h1, e1, l_drawn, hd, h5, dEq_int, ruleD]
  · obtain ⟨y, k1, k2⟩ := atI_in (xs := [D.int 2, .int 4, .int 12]) (i := d / 128 % 3) (by omega) (by simp; omega)
    have : ∃ c : Int, y = .int c ∧ 0 < c ∧ c ≤ 12 := by
      simp at k2
      rcases k2 with h | h | h
      · exact ⟨2, h, by omega, by omega⟩
      · exact ⟨4, h, by omega, by omega⟩
      · exact ⟨12, h, by omega, by omega⟩
    obtain ⟨c, rfl, hc, hc2⟩ := this
    obtain ⟨z, w1, w2⟩ := atI_in (xs := [D.str [97], .str [98], .str [99, 100], .str [104, 111, 109, 101]]) (i := d / 512 % 4) (by omega) (by simp; omega)
    have : ∃ w, z = .str w ∧ w ∈ words4 := by
      simp at w2
      rcases w2 with h | h | h | h
      · exact ⟨_, h, by decide⟩
      · exact ⟨_, h, by decide⟩
      · exact ⟨_, h, by decide⟩
      · exact ⟨_, h, by decide⟩
    obtain ⟨w, rfl, hw⟩ := this
    have q1 : 0 ≤ d / 8 % c := Int.emod_nonneg _ (by omega)
    have hs5 : (d % 5 == 0) = false := by simp [h5]
    refine ⟨⟨s, if ((if (s.length : Int) > 1 then (s.length : Int) else 1) + d / 8 % c) < 12 then ((if (s.length : Int) > 1 then (s.length : Int) else 1) + d / 8 % c) else 12, w⟩, ?_, ds, ls', .inr ⟨?_, ?_, ?_, hw⟩⟩
    · simp [dDiv_ok, dMod_ok, h1, e1, l_drawn, hd, hs5, dEq_int, ruleD, k1, hc, w1]
    · simp only
      split <;> split <;> omega
    · simp only
      split <;> omega
    · simp only
      split <;> split <;> omega

/-! the dict of rules -/
def encR (r : Rule) : List Nat × D := (r.p, ruleD r)
def rput (rs : List Rule) (r : Rule) : List Rule := if (rs.any fun q => decide (q.p = r.p)) = true then rs.map (fun q => if q.p = r.p then r else q) else rs ++ [r]
theorem kPut_enc (rs : List Rule) (r : Rule) : kPut (rs.map encR) r.p (ruleD r) = (rput rs r).map encR := by
  unfold kPut rput
  have e : ((rs.map encR).any fun kv => decide (kv.1 = r.p)) = (rs.any fun q => decide (q.p = r.p)) := by
    rw [List.any_map]
    rfl
  rw [e]
  split
  · rw [List.map_map, List.map_map]
    refine List.map_congr_left fun q _ => ?_
    show (if q.p = r.p then (q.p, ruleD r) else (q.p, ruleD q)) = encR (if q.p = r.p then r else q)
    by_cases h : q.p = r.p
    · rw [if_pos h, if_pos h, h]
      rfl
    · rw [if_neg h, if_neg h]
      rfl
  · rw [List.map_append]
    rfl
structure DictOk (rs : List Rule) : Prop where
  nd : (rs.map (·.p)).Nodup
  ok : ∀ r ∈ rs, RuleOk r
theorem DictOk.put {rs : List Rule} {r : Rule} (h : DictOk rs) (hr : RuleOk r) : DictOk (rput rs r) ∧ (rput rs r).length ≤ rs.length + 1 := by
  unfold rput
  by_cases c : (rs.any fun q => decide (q.p = r.p)) = true
  · rw [if_pos c]
    refine ⟨⟨?_, fun q hq => ?_⟩, by rw [List.length_map]; omega⟩
    · have e : (rs.map (fun q => if q.p = r.p then r else q)).map (·.p) = rs.map (·.p) := by
        rw [List.map_map]
        refine List.map_congr_left fun q _ => ?_
        show (if q.p = r.p then r else q).p = q.p
        by_cases h : q.p = r.p
        · rw [if_pos h, h]
        · rw [if_neg h]
      rw [e]
      exact h.nd
    · obtain ⟨q', h1, rfl⟩ := List.mem_map.mp hq
      split
      · exact hr
      · exact h.ok q' h1
  · rw [if_neg c]
    refine ⟨⟨?_, fun q hq => ?_⟩, by rw [List.length_append]; exact Nat.le_refl _⟩
    · rw [List.map_append, List.map_singleton]
      refine List.nodup_append.mpr ⟨h.nd, by simp, fun a ha b hb e => ?_⟩
      have hb : b = r.p := by simpa using hb
      obtain ⟨q, h1, h2⟩ := List.mem_map.mp ha
      have h2 : q.p = a := h2
      refine c (List.any_eq_true.mpr ⟨q, h1, decide_eq_true ?_⟩)
      rw [h2, e, hb]
    · rcases List.mem_append.mp hq with h1 | h1
      · exact h.ok q h1
      · have : q = r := by simpa using h1
        rw [this]
        exact hr
theorem putS_run {i : Nat} {k v : Env → R D} {ρ : Env} {kvs : List (List Nat × D)} {key : List Nat} {d : D} (h1 : v ρ = .ok d) (h2 : ρ[i]? = some (.M kvs)) (h3 : k ρ = .ok (.str key)) (h4 : kvs.length < line) : putS i k v ρ = .ok (.nx (ρ.set i (.M (kPut kvs key d)))) := by
  unfold putS
  rw [h1, bind_ok, h2]
  show (k ρ).bind _ = _
  rw [h3, bind_ok]
  show (if kvs.length < line then _ else _) = _
  rw [if_pos h4]
theorem table_loop (n : Int) (m : D) : ∀ (ks : List Int) (rs : List Rule) (x y : Slot), DictOk rs → rs.length + ks.length ≤ 1000 →
    ∃ rs' x' y', forF (to1 3) b_l_table_1 (ks.map D.int) [.d (.int n), .d m, .M (rs.map encR), x, y, .no] = .ok (.nx [.d (.int n), .d m, .M (rs'.map encR), x', y', .no]) ∧ DictOk rs' ∧ rs'.length ≤ rs.length + ks.length
  | [], rs, x, y, h, _ => ⟨rs, x, y, rfl, h, Nat.le_refl _⟩
  | k :: ks, rs, x, y, h, hl => by
    obtain ⟨r, e1, hr⟩ := l_rule (drawn n (50 + k)) (drawn_nn _ _).1
    have hl' : rs.length + (ks.length + 1) ≤ 1000 := hl
    obtain ⟨h2, h3⟩ := h.put hr
    obtain ⟨rs', x', y', e, ho, hlen⟩ := table_loop n m ks (rput rs r) (.d (.int k)) (.d (ruleD r)) h2 (by omega)
    refine ⟨rs', x', y', ?_, ho, by rw [List.length_cons]; omega⟩
    rw [List.map_cons, forF_step (ρ2 := [.d (.int n), .d m, .M ((rput rs r).map encR), .d (.int k), .d (ruleD r), .no]) rfl (.inl ?_), e]
    unfold b_l_table_1
    simp only [to1_eq, bind_ok, List.set_cons_succ, List.set_cons_zero, seqS_eq, setS_eq, callF_eq, aCons_eq, aNil_eq, vI_zero, vI_succ, op2_eq, cst_eq, dAdd_int, List.length_cons, List.length_nil, if_true, l_drawn, e1, seqO_nx]
    rw [putS_run (kvs := rs.map encR) (key := r.p) (d := ruleD r) rfl rfl (by simp [ruleD]) (by rw [List.length_map]; unfold line; omega), kPut_enc]
    rfl

/-! comprehensions whose steps give values -/
theorem compF_all {i : Nat} {c : Env → R Bool} {el : Env → R D} {vs : List Nat} {ρ : Env} (p : D → Bool) (g : D → D) : ∀ (xs : List D), (∀ x ∈ xs, c ((wipeE ρ vs).set i (.d x)) = .ok (p x)) → (∀ x ∈ xs, p x = true → el ((wipeE ρ vs).set i (.d x)) = .ok (g x)) →
    compF (to1 i) c el vs ρ xs = .ok ((xs.filter p).map g)
  | [], _, _ => rfl
  | x :: xs, h1, h2 => by
    have ih := compF_all p g xs (fun y hy => h1 y (List.mem_cons_of_mem _ hy)) (fun y hy => h2 y (List.mem_cons_of_mem _ hy))
    unfold compF
    rw [to1_eq, bind_ok, h1 x List.mem_cons_self, noEr_ok', bind_ok, ih]
    by_cases hp : p x = true
    · rw [hp, if_pos rfl, h2 x List.mem_cons_self hp, noEr_ok', bind_ok, bind_ok, List.filter_cons_of_pos hp, List.map_cons]
    · rw [if_neg hp, List.filter_cons_of_neg hp]
theorem compF_map {i : Nat} {el : Env → R D} {vs : List Nat} {ρ : Env} (g : D → D) (xs : List D) (h : ∀ x ∈ xs, el ((wipeE ρ vs).set i (.d x)) = .ok (g x)) : compF (to1 i) yesT el vs ρ xs = .ok (xs.map g) := by
  have := compF_all (i := i) (c := yesT) (el := el) (vs := vs) (ρ := ρ) (fun _ => true) g xs (fun _ _ => rfl) fun x hx _ => h x hx
  rw [this]
  have e : xs.filter (fun _ => true) = xs := List.filter_eq_self.mpr fun _ _ => rfl
  rw [e]
/-- the rule of a key -/
def rget (rs : List Rule) (k : List Nat) : Rule := (rs.find? fun r => decide (r.p = k)).getD ⟨[], 0, []⟩
theorem kGet_enc (rs : List Rule) (k : List Nat) (h : k ∈ rs.map (·.p)) : kGet (rs.map encR) k = some (ruleD (rget rs k)) ∧ (rget rs k) ∈ rs ∧ (rget rs k).p = k := by
  unfold kGet rget
  rw [List.find?_map]
  obtain ⟨r, h1, h2⟩ := List.mem_map.mp h
  cases e : rs.find? (fun r => decide (r.p = k)) with
  | none =>
    have := List.find?_eq_none.mp e r h1
    exact absurd h2 (by simpa using this)
  | some q =>
    have e1 := List.find?_some e
    have e2 := List.mem_of_find?_eq_some e
    have e3 : rs.find? ((fun kv : List Nat × D => decide (kv.1 = k)) ∘ encR) = some q := e
    rw [e3]
    exact ⟨rfl, e2, by simpa using e1⟩
structure TabOk (t : List Rule) (m : Nat) : Prop where
  ok : ∀ r ∈ t, RuleOk r
  len : t.length ≤ m
  ord : t.Pairwise fun a b => a.p < b.p
theorem slt_of {l : List (List Nat)} (h : SLe l) (nd : l.Nodup) : l.Pairwise fun a b => a < b := by
  induction l with
  | nil => exact List.Pairwise.nil
  | cons x l ih =>
    have h' := List.pairwise_cons.mp h
    have n' := List.nodup_cons.mp nd
    refine List.pairwise_cons.mpr ⟨fun y hy => ?_, ih h'.2 n'.2⟩
    by_cases z : x < y
    · exact z
    · exact absurd (sle_antisymm (h'.1 y hy) z) fun e => n'.1 (e ▸ hy)
theorem tab_of {rs : List Rule} (h : DictOk rs) : TabOk ((sortL (rs.map (·.p))).map (rget rs)) rs.length := by
  have hp := sortL_perm (rs.map (·.p))
  have hm : ∀ k ∈ sortL (rs.map (·.p)), k ∈ rs.map (·.p) := fun k hk => hp.mem_iff.mp hk
  refine ⟨fun r hr => ?_, by rw [List.length_map, hp.length_eq, List.length_map]; exact Nat.le_refl _, ?_⟩
  · obtain ⟨k, hk, rfl⟩ := List.mem_map.mp hr
    exact h.ok _ (kGet_enc rs k (hm k hk)).2.1
  · have := slt_of (sortL_sorted (rs.map (·.p))) (hp.nodup_iff.mpr h.nd)
    refine List.pairwise_map.mpr (List.Pairwise.imp_of_mem (fun {a b} ha hb hab => ?_) this)
    rw [(kGet_enc rs a (hm a ha)).2.2, (kGet_enc rs b (hm b hb)).2.2]
    exact hab
theorem l_table (n : Int) (m : Nat) (hm : m ≤ 60) : ∃ t, f_l_table [.int n, .int m] = .ok (tabD t) ∧ TabOk t m := by
  have g1 : 0 ≤ n % ((m : Int) + 1) := Int.emod_nonneg _ (by omega)
  have g2 : n % ((m : Int) + 1) < m + 1 := Int.emod_lt_of_pos _ (by omega)
  obtain ⟨r, hr⟩ : ∃ r : Nat, n % ((m : Int) + 1) = r := ⟨(n % ((m : Int) + 1)).toNat, by omega⟩
  obtain ⟨rs, x', y', e, ho, hlen⟩ := table_loop n (.int m) ((List.range r).map fun i => 0 + (i : Nat)) [] .no .no ⟨by simp, fun _ h => nomatch h⟩ (by simp; omega)
  have hlr : rs.length ≤ m := by
    simp at hlen
    omega
  have T := tab_of ho
  refine ⟨_, ?_, ⟨T.ok, Nat.le_trans T.len hlr, T.ord⟩⟩
  show (p_l_table [.d (.int n), .d (.int m), .no, .no, .no, .no]).bind finF = _
  unfold p_l_table
  simp only [seqS_eq, newMS_eq, bind_ok, seqO_nx, forS_eq, itR_eq, aCons_eq, aNil_eq, op2_eq, vI_zero, vI_succ, cst_eq, List.set_cons_succ, List.set_cons_zero, dAdd_int]
  rw [dMod_ok (by omega), bind_ok, hr, bind_ok, dRng1_ok (by unfold line; omega), bind_ok, rngL_eq]
  have e : forF (to1 3) b_l_table_1 (List.map D.int (List.map (fun (i : Nat) => 0 + (i : Int)) (List.range r))) [.d (.int n), .d (.int m), .M [], .no, .no, .no] = _ := e
  rw [e, bind_ok, seqO_nx]
  simp only [frzS_eq, retS_eq, calls_eq, aCons_eq, aNil_eq, compV_eq, itVn_eq, frzE, List.getElem?_cons_succ, List.getElem?_cons_zero, List.set_cons_succ, List.set_cons_zero, vI_zero, vI_succ, bind_ok]
  have hs : dSortedG [.dct (rs.map encR)] = .ok (.lst ((sortL (rs.map (·.p))).map .str)) := by
    show (if (rs.map encR).length < 64 then _ else _) = _
    rw [if_pos (by rw [List.length_map]; omega), List.map_map]
    rfl
  rw [hs, noEr_ok', bind_ok, items_lst, bind_ok]
  rw [compF_map (fun d => match d with | .str k => ruleD (rget rs k) | d => d)]
  · simp only [bind_ok, dTuple_lst, finF_rt, List.map_map, tabD]
    rfl
  · intro d hd
    obtain ⟨k, hk, rfl⟩ := List.mem_map.mp hd
    simp only [op2_eq, wipeE, List.set_cons_succ, List.set_cons_zero, vI_zero, vI_succ, bind_ok]
    show optR (kGet (rs.map encR) k) = _
    rw [(kGet_enc rs k ((sortL_perm _).mem_iff.mp hk)).1]
    rfl

/-! ### numbers -/
theorem cutL_take {α : Type} (xs : List α) (k : Nat) : cutL xs none (some (k : Int)) = xs.take k := by
  unfold cutL
  rw [HT.sIx_none, HT.sIx_nat]
  simp
theorem cutL_drop {α : Type} (xs : List α) (k : Nat) : cutL xs (some (k : Int)) none = xs.drop k := by
  unfold cutL
  rw [HT.sIx_none, HT.sIx_nat, List.take_of_length_le]
  · by_cases h : k ≤ xs.length
    · rw [Nat.min_eq_left h]
    · rw [Nat.min_eq_right (by omega), List.drop_length, List.drop_of_length_le (by omega)]
  · rw [List.length_drop]
    exact Nat.le_refl _
theorem plain_rule (r : Rule) (n : Nat) : D.plain (ruleD r) (n + 1) = true := by simp [ruleD]
theorem plain_tab (t : List Rule) (n : Nat) : D.plain (tabD t) (n + 2) = true := by
  unfold tabD
  rw [plain_tup]
  refine plains_all fun x hx => ?_
  obtain ⟨r, _, rfl⟩ := List.mem_map.mp hx
  exact plain_rule r n
theorem nice_rule (r : Rule) : D.nice (ruleD r) = true := by simp [ruleD]
theorem nice_tab (t : List Rule) : D.nice (tabD t) = true := by
  unfold tabD
  rw [nice_tup]
  refine nices_all fun x hx => ?_
  obtain ⟨r, _, rfl⟩ := List.mem_map.mp hx
  exact nice_rule r
theorem ruleD_inj {a b : Rule} (h : ruleD a = ruleD b) : a = b := by
  cases a
  cases b
  simpa [ruleD] using h
structure NumOk (s : List Nat) : Prop where
  dig : Digs s
  pos : 1 ≤ s.length
  len : s.length ≤ 12
theorem Digs.take {s : List Nat} (h : Digs s) (k : Nat) : Digs (s.take k) := fun c hc => h c (List.mem_of_mem_take hc)
theorem Digs.app {s t : List Nat} (h : Digs s) (g : Digs t) : Digs (s ++ t) := fun c hc => (List.mem_append.mp hc).elim (h c) (g c)
theorem num_end (begin : List Nat) (n : Int) (hb : Digs begin) (hl : begin.length ≤ 12) (x : D) (hx : x = .str begin) (t : D) (ρ0 : Slot) : ∃ s, ((seqS (setS 3 (op2 dAdd (vI 2) (callF 2 f_l_figures (aCons (callF 2 f_l_drawn (aCons (vI 0) (aCons (cst (.int 3)) (aNil)))) (aCons (cst (.int 6)) (aNil)))))) (retS (slcV (op2 dAdd (vI 3) (cst (.str [48]))) (oNo) (oSome (calls dMax2 (aCons (cst (.int 1)) (aCons (calls dMin2 (aCons (cst (.int 12)) (aCons (calls dLen (aCons (vI 3) (aNil))) (aNil)))) (aNil)))))))) [.d (.int n), .d t, .d x, ρ0]).bind finF = .ok (.str s) ∧ NumOk s := by
  subst hx
  obtain ⟨f, e1, df, lf⟩ := l_figures (drawn n 3) 6 (drawn_nn n 3).1 (by omega)
  have lf' : f.length ≤ 6 := by
    have : drawn n 3 % ((6 : Nat) + 1 : Int) < 6 + 1 := Int.emod_lt_of_pos _ (by omega)
    omega
  have e1 : f_l_figures [.int (drawn n 3), .int 6] = .ok (.str f) := e1
  obtain ⟨k, hk, hk1, hk2⟩ : ∃ k : Nat, (if (if (((begin ++ f).length : Nat) : Int) < 12 then (((begin ++ f).length : Nat) : Int) else 12) > 1 then (if (((begin ++ f).length : Nat) : Int) < 12 then (((begin ++ f).length : Nat) : Int) else 12) else 1) = (k : Int) ∧ 1 ≤ k ∧ k ≤ 12 := by
    refine ⟨(if (if (((begin ++ f).length : Nat) : Int) < 12 then (((begin ++ f).length : Nat) : Int) else 12) > 1 then (if (((begin ++ f).length : Nat) : Int) < 12 then (((begin ++ f).length : Nat) : Int) else 12) else 1).toNat, ?_, ?_, ?_⟩ <;> (split <;> split <;> omega)
  have d48 : Digs [48] := by decide
  refine ⟨(begin ++ f ++ [48]).take k, ?_, ⟨((hb.app df).app d48).take k, ?_, ?_⟩⟩
  · simp only [seqS_eq, setS_eq, op2_eq, vI_zero, vI_succ, cst_eq, callF_eq, aCons_eq, aNil_eq, bind_ok, l_drawn, e1, List.length_cons, List.length_nil, if_true, Nat.reduceAdd]
    rw [dAdd_str (by unfold line; omega)]
    simp only [bind_ok, seqO_nx, List.set_cons_succ, List.set_cons_zero, retS_eq, slcV_eq, op2_eq, vI_zero, vI_succ, cst_eq, oNo_eq, oSome_eq, calls_eq, aCons_eq, aNil_eq, dLen_str, dMin2_eq, dMax2_eq, asI_int]
    rw [dAdd_str (by unfold line; rw [List.length_append, List.length_singleton]; omega), bind_ok, hk, dCut_str, cutL_take]
    rfl
  · rw [List.length_take]
    simp
    omega
  · rw [List.length_take]
    omega
theorem l_number (n : Int) (t : List Rule) (m : Nat) (hn : 0 ≤ n) (T : TabOk t m) (hm : m ≤ 60) : ∃ s, f_l_number [.int n, tabD t] = .ok (.str s) ∧ NumOk s := by
  have run : f_l_number [.int n, tabD t] = (p_l_number [.d (.int n), .d (tabD t), .no, .no]).bind finF := rfl
  rw [run]
  unfold p_l_number
  rw [seqS_eq, setS_eq, cst_eq, bind_ok, bind_ok, seqO_nx, seqS_eq]
  simp only [List.set_cons_succ, List.set_cons_zero]
  have hne : dNe (tabD t) (.tup []) = .ok (.bl (!D.eqv (tabD t) (.tup []))) := dNe_ok (plain_tab t 58) rfl
  have htest : (andT (tst (op2 dNe (vI 1) (tupV aNil))) (tst (op2 dGt (op2 dMod (op2 dDiv (vI 0) (cst (.int 16))) (cst (.int 3))) (cst (.int 0))))) [.d (.int n), .d (tabD t), .d (.str []), .no] = .ok (!D.eqv (tabD t) (.tup []) && decide (0 < n / 16 % 3)) := by
    simp only [andT_eq, tst_eq, op2_eq, vI_zero, vI_succ, bind_ok, tupV_eq, aNil_eq, mkT_small (List.length_nil (α := D) ▸ Nat.zero_le 1000), hne, asB_bl, cst_eq, dDiv_ok (show (0 : Int) < 16 ∧ (16 : Int) < 1073741824 by decide), dMod_ok (show (0 : Int) < 3 by decide), dCmp_int]
    cases D.eqv (tabD t) (.tup []) <;> simp
  rw [ifS_eq, htest, bind_ok]
  by_cases hc : (!D.eqv (tabD t) (.tup []) && decide (0 < n / 16 % 3)) = true
  · rw [if_pos hc]
    have hc' : ¬ t = [] := fun e => by
      subst e
      simp [tabD, D.eqv, D.eqvs] at hc
    have hpos : 0 < t.length := List.length_pos_iff.mpr hc'
    have q1 : 0 ≤ n / 64 % (t.length : Int) := Int.emod_nonneg _ (by omega)
    have q2 : n / 64 % (t.length : Int) < t.length := Int.emod_lt_of_pos _ (by omega)
    obtain ⟨x, a1, a2⟩ := atI_in (xs := t.map ruleD) (i := n / 64 % (t.length : Int)) q1 (by rw [List.length_map]; exact q2)
    obtain ⟨r, hr, rfl⟩ := List.mem_map.mp a2
    obtain ⟨k, hk⟩ : ∃ k : Nat, n / 1024 % 8 = k := ⟨(n / 1024 % 8).toNat, by omega⟩
    have hb : (setS 2 (slcV (op2 dIx (op2 dIx (vI 1) (op2 dMod (op2 dDiv (vI 0) (cst (.int 64))) (calls dLen (aCons (vI 1) aNil)))) (cst (.int 0))) oNo (oSome (op2 dMod (op2 dDiv (vI 0) (cst (.int 1024))) (cst (.int 8)))))) [.d (.int n), .d (tabD t), .d (.str []), .no] = .ok (.nx [.d (.int n), .d (tabD t), .d (.str (r.p.take k)), .no]) := by
      simp only [setS_eq, slcV_eq, op2_eq, vI_zero, vI_succ, bind_ok, cst_eq, calls_eq, aCons_eq, aNil_eq, tabD, dLen_tup, List.length_map, dDiv_ok (show (0 : Int) < 64 ∧ (64 : Int) < 1073741824 by decide), dMod_ok (show (0 : Int) < (t.length : Int) by omega), dIx_tup, a1, optR_some]
      simp only [ruleD, dIx_tup, atI_0, optR_some, bind_ok, oNo_eq, oSome_eq, op2_eq, vI_zero, cst_eq, dDiv_ok (show (0 : Int) < 1024 ∧ (1024 : Int) < 1073741824 by decide), dMod_ok (show (0 : Int) < 8 by decide), asI_int, hk, dCut_str, cutL_take, List.set_cons_succ, List.set_cons_zero]
    rw [hb, bind_ok, seqO_nx]
    have R := T.ok r hr
    exact num_end (r.p.take k) n (R.dig.take k) (by rw [List.length_take]; have := R.len; omega) _ rfl (tabD t) .no
  · rw [if_neg hc, skipS_eq, bind_ok, seqO_nx]
    exact num_end [] n (fun _ h => nomatch h) (by simp) _ rfl (tabD t) .no
end DD

namespace DD
open PySem PySem.Spec PyProof.Rows L2

/-! ### what a table says -/
def better (s : List Nat) (best : Option Rule) (r : Rule) : Option Rule :=
  if r.p.isPrefixOf s = true ∧ (∀ b, best = some b → b.p.length < r.p.length) then some r else best
def ruleFor (t : List Rule) (s : List Nat) : Option Rule := t.foldl (better s) none
def optD : Option Rule → D
  | none => .non
  | some r => ruleD r
instance (best : Option Rule) (r : Rule) : Decidable (∀ b, best = some b → b.p.length < r.p.length) :=
  match best with
  | none => isTrue fun _ h => nomatch h
  | some b => if h : b.p.length < r.p.length then isTrue fun _ e => by cases e; exact h else isFalse fun g => h (g b rfl)
theorem rule_for_loop (td : D) (s : List Nat) : ∀ (t : List Rule) (best : Option Rule) (x : Slot),
    ∃ x', forF (to1 3) b_rule_for_1 (t.map ruleD) [.d td, .d (.str s), .d (optD best), x] = .ok (.nx [.d td, .d (.str s), .d (optD (t.foldl (better s) best)), x'])
  | [], best, x => ⟨x, rfl⟩
  | r :: t, best, x => by
    obtain ⟨x', e⟩ := rule_for_loop td s t (better s best r) (.d (ruleD r))
    refine ⟨x', ?_⟩
    rw [List.map_cons, List.foldl_cons, forF_step (ρ2 := [.d td, .d (.str s), .d (optD (better s best r)), .d (ruleD r)]) rfl (.inl ?_), e]
    unfold b_rule_for_1
    cases best with
    | none =>
      by_cases h : r.p.isPrefixOf s = true
      · have hb : better s none r = some r := by
          unfold better
          rw [if_pos ⟨h, fun b e => nomatch e⟩]
        rw [hb]
        simp [ruleD, optD, h]
      · have hb : better s none r = none := by
          unfold better
          rw [if_neg fun z => h z.1]
        rw [hb]
        rw [Bool.not_eq_true] at h
        simp [ruleD, optD, h]
    | some b =>
      by_cases h : r.p.isPrefixOf s = true
      · by_cases h2 : b.p.length < r.p.length
        · have hb : better s (some b) r = some r := by
            unfold better
            rw [if_pos ⟨h, fun b e => by cases e; exact h2⟩]
          rw [hb]
          simp [ruleD, optD, h, h2]
        · have hb : better s (some b) r = some b := by
            unfold better
            rw [if_neg fun z => h2 (z.2 b rfl)]
          rw [hb]
          simp [ruleD, optD, h, h2]
      · have hb : better s (some b) r = some b := by
          unfold better
          rw [if_neg fun z => h z.1]
        rw [hb]
        rw [Bool.not_eq_true] at h
        simp [ruleD, optD, h]
theorem rule_for_ok (t : List Rule) (s : List Nat) : f_rule_for [tabD t, .str s] = .ok (optD (ruleFor t s)) := by
  show (p_rule_for [.d (tabD t), .d (.str s), .no, .no]).bind finF = _
  obtain ⟨x', e⟩ := rule_for_loop (tabD t) s t none .no
  unfold p_rule_for
  rw [seqS_eq, setS_eq, cst_eq, bind_ok, bind_ok, seqO_nx, seqS_eq, forS_eq, itVn_eq]
  simp only [List.set_cons_succ, List.set_cons_zero, vI_zero, noEr_ok', bind_ok]
  show ((forF (to1 3) b_rule_for_1 (t.map ruleD) [.d (tabD t), .d (.str s), .d (optD none), .no]).bind _).bind finF = _
  rw [e]
  simp [ruleFor]
/-- what is said -/
def judge (o : Option Rule) (n : Int) : D := match o with
  | none => .tup [.str [110, 111, 110, 101]]
  | some r => if r.s = 0 then .tup [.str [99, 108, 111, 115, 101, 100]] else if n < r.s then .tup [.str [109, 111, 114, 101], .int (r.s - n)] else if n = r.s then .tup [.str [103, 111, 111, 100], .str r.w] else .tup [.str [108, 111, 110, 103]]
theorem judged_ok (o : Option Rule) (n : Int) : f_judged [optD o, .int n] = .ok (judge o n) := by
  show (p_judged [.d (optD o), .d (.int n)]).bind finF = _
  unfold p_judged
  cases o with
  | none => simp [optD, judge]
  | some r =>
    by_cases h0 : r.s = 0
    · simp [optD, ruleD, judge, h0, dEq_int]
    · have h0' : (r.s == 0) = false := by simp [h0]
      by_cases h1 : n < r.s
      · simp [optD, ruleD, judge, h0', h0, dEq_int, h1]
      · by_cases h2 : n = r.s
        · have h2' : (n == r.s) = true := by simp [h2]
          have h1' : ¬ r.s < r.s := by omega
          simp [optD, ruleD, judge, h0', h0, dEq_int, h1, h2, h2']
        · have h2' : (n == r.s) = false := by simp [h2]
          simp [optD, ruleD, judge, h0', h0, dEq_int, h1, h2, h2']
def saysD (t : List Rule) (s : List Nat) : D := judge (ruleFor t s) s.length
theorem says_ok (t : List Rule) (s : List Nat) : f_says [tabD t, .str s] = .ok (saysD t s) := by
  show (p_says [.d (tabD t), .d (.str s)]).bind finF = _
  unfold p_says
  simp [rule_for_ok, judged_ok, saysD]
@[simp] theorem dIx_opt0 (r : Rule) : dIx (optD (some r)) (.int 0) = .ok (.str r.p) := by simp [optD, ruleD]
@[simp] theorem dIx_opt1 (r : Rule) : dIx (optD (some r)) (.int 1) = .ok (.int r.s) := by simp [optD, ruleD]
@[simp] theorem dIx_opt2 (r : Rule) : dIx (optD (some r)) (.int 2) = .ok (.str r.w) := by simp [optD, ruleD]
@[simp] theorem dIx_rule0 (r : Rule) : dIx (ruleD r) (.int 0) = .ok (.str r.p) := by simp [ruleD]
@[simp] theorem dIx_rule1 (r : Rule) : dIx (ruleD r) (.int 1) = .ok (.int r.s) := by simp [ruleD]
@[simp] theorem dIx_rule2 (r : Rule) : dIx (ruleD r) (.int 2) = .ok (.str r.w) := by simp [ruleD]
theorem plain_opt (o : Option Rule) (n : Nat) : D.plain (optD o) (n + 1) = true := by
  cases o with
  | none => rfl
  | some r => exact plain_rule r n
theorem nice_opt (o : Option Rule) : D.nice (optD o) = true := by
  cases o with
  | none => rfl
  | some r => exact nice_rule r
theorem optD_inj {a b : Option Rule} (h : optD a = optD b) : a = b := by
  cases a with
  | none =>
    cases b with
    | none => rfl
    | some r => simp [optD, ruleD] at h
  | some q =>
    cases b with
    | none => simp [optD, ruleD] at h
    | some r => rw [ruleD_inj (show ruleD q = ruleD r from h)]
theorem plain_judge (o : Option Rule) (k : Int) (n : Nat) : D.plain (judge o k) (n + 1) = true := by
  unfold judge
  cases o with
  | none => simp
  | some r =>
    simp only
    split
    · simp
    · split
      · simp
      · split <;> simp
theorem nice_judge (o : Option Rule) (k : Int) : D.nice (judge o k) = true := by
  unfold judge
  cases o with
  | none => simp
  | some r =>
    simp only
    split
    · simp
    · split
      · simp
      · split <;> simp
theorem plain_says (t : List Rule) (s : List Nat) (n : Nat) : D.plain (saysD t s) (n + 1) = true := plain_judge _ _ _
theorem nice_says (t : List Rule) (s : List Nat) : D.nice (saysD t s) = true := nice_judge _ _
/-- what is said of each beginning -/
def dialL (t : List Rule) (s : List Nat) : List D := (List.range s.length).map fun i => saysD t (s.take (i + 1))
theorem cutL_upto (s : List Nat) (i : Nat) : cutL s none (some (1 + (i : Int))) = s.take (i + 1) := by
  have : (1 + (i : Int)) = ((i + 1 : Nat) : Int) := by omega
  rw [this, cutL_take]
theorem dialled_ok (t : List Rule) (s : List Nat) (h : s.length ≤ 1000) : f_dialled [tabD t, .str s] = .ok (.tup (dialL t s)) := by
  show (p_dialled [.d (tabD t), .d (.str s), .no]).bind finF = _
  unfold p_dialled
  simp only [retS_eq, calls_eq, aCons_eq, aNil_eq, compV_eq, itR_eq, cst_eq, op2_eq, vI_zero, vI_succ, bind_ok, dLen_str, dAdd_int]
  rw [dRng2_ok (by omega) (by omega) (by omega) (by omega), bind_ok]
  have e : ((s.length : Int) + 1 - 1).toNat = s.length := by omega
  rw [e, compF_map (fun d => match d with | .int k => saysD t (cutL s none (some k)) | d => d)]
  · simp only [bind_ok, dTuple_lst, finF_rt, rngL, List.map_map, dialL]
    congr 2
    refine List.map_congr_left fun i _ => ?_
    show saysD t (cutL s none (some (1 + (i : Int)))) = _
    rw [cutL_upto]
  · intro d hd
    obtain ⟨i, hi, rfl⟩ := List.mem_map.mp hd
    simp [wipeE, says_ok]
theorem dialL_get (t : List Rule) (s : List Nat) (i : Nat) (h : i < s.length) : atI (dialL t s) (i : Int) = some (saysD t (s.take (i + 1))) := by
  refine atI_nat ?_
  simp [dialL, h]
theorem plain_dial (t : List Rule) (s : List Nat) (n : Nat) : D.plain (.tup (dialL t s)) (n + 2) = true := by
  rw [plain_tup]
  refine plains_all fun x hx => ?_
  obtain ⟨i, _, rfl⟩ := List.mem_map.mp hx
  exact plain_says _ _ _
theorem nice_dial (t : List Rule) (s : List Nat) : D.nice (.tup (dialL t s)) = true := by
  rw [nice_tup]
  refine nices_all fun x hx => ?_
  obtain ⟨i, _, rfl⟩ := List.mem_map.mp hx
  exact nice_says _ _
end DD
namespace DD
/-! ### the rule is the longest -/
theorem foldl_better (s : List Nat) : ∀ (t : List Rule) (best : Option Rule), (∀ b, best = some b → b.p.isPrefixOf s = true) →
    match t.foldl (better s) best with
    | none => best = none ∧ ∀ q ∈ t, q.p.isPrefixOf s = false
    | some r => (best = some r ∨ r ∈ t) ∧ r.p.isPrefixOf s = true ∧ (∀ q ∈ t, q.p.isPrefixOf s = true → q.p.length ≤ r.p.length) ∧ ∀ b, best = some b → b.p.length ≤ r.p.length
  | [], best, h => by
    cases best with
    | none => exact ⟨rfl, fun _ h => nomatch h⟩
    | some b => exact ⟨.inl rfl, h b rfl, fun _ h => (nomatch h), fun c e => by cases e; exact Nat.le_refl _⟩
  | q :: t, best, h => by
    rw [List.foldl_cons]
    by_cases hq : q.p.isPrefixOf s = true ∧ (∀ b, best = some b → b.p.length < q.p.length)
    · have hb : better s best q = some q := if_pos hq
      rw [hb]
      have ih := foldl_better s t (some q) fun b e => by cases e; exact hq.1
      cases e : t.foldl (better s) (some q) with
      | none =>
        rw [e] at ih
        exact absurd ih.1 (by simp)
      | some r =>
        rw [e] at ih
        obtain ⟨h1, h2, h3, h4⟩ := ih
        have hqr := h4 q rfl
        refine ⟨.inr ?_, h2, fun x hx hp => ?_, fun b eb => ?_⟩
        · rcases h1 with z | z
          · cases z
            exact List.mem_cons_self
          · exact List.mem_cons_of_mem _ z
        · rcases List.mem_cons.mp hx with z | z
          · rw [z]
            exact hqr
          · exact h3 x z hp
        · exact Nat.le_trans (Nat.le_of_lt (hq.2 b eb)) hqr
    · have hb : better s best q = best := if_neg hq
      rw [hb]
      have ih := foldl_better s t best h
      cases e : t.foldl (better s) best with
      | none =>
        rw [e] at ih
        obtain ⟨h1, h2⟩ := ih
        refine ⟨h1, fun x hx => ?_⟩
        rcases List.mem_cons.mp hx with z | z
        · subst z
          cases hp : x.p.isPrefixOf s with
          | false => rfl
          | true => exact absurd ⟨hp, fun b eb => by rw [h1] at eb; cases eb⟩ hq
        · exact h2 x z
      | some r =>
        rw [e] at ih
        obtain ⟨h1, h2, h3, h4⟩ := ih
        refine ⟨h1.elim .inl fun z => .inr (List.mem_cons_of_mem _ z), h2, fun x hx hp => ?_, h4⟩
        rcases List.mem_cons.mp hx with z | z
        · subst z
          cases best with
          | none => exact absurd ⟨hp, fun b eb => nomatch eb⟩ hq
          | some b =>
            have : ¬ b.p.length < x.p.length := fun g => hq ⟨hp, fun c eb => by cases eb; exact g⟩
            have := h4 b rfl
            omega
        · exact h3 x z hp
theorem ruleFor_none {t : List Rule} {s : List Nat} (h : ruleFor t s = none) : ∀ q ∈ t, ¬ q.p <+: s := fun q hq hp => by
  have := foldl_better s t none (fun _ e => nomatch e)
  unfold ruleFor at h
  rw [h] at this
  have z := this.2 q hq
  rw [List.isPrefixOf_iff_prefix.mpr hp] at z
  cases z
theorem ruleFor_some {t : List Rule} {s : List Nat} {r : Rule} (h : ruleFor t s = some r) : r ∈ t ∧ r.p <+: s ∧ ∀ q ∈ t, q.p <+: s → q.p.length ≤ r.p.length := by
  have := foldl_better s t none (fun _ e => nomatch e)
  unfold ruleFor at h
  rw [h] at this
  obtain ⟨h1, h2, h3, _⟩ := this
  refine ⟨h1.resolve_left (by simp), List.isPrefixOf_iff_prefix.mp h2, fun q hq hp => h3 q hq (List.isPrefixOf_iff_prefix.mpr hp)⟩
/-- prefixes are unlike -/
abbrev PNodup (t : List Rule) : Prop := ∀ a ∈ t, ∀ b ∈ t, a.p = b.p → a = b
theorem TabOk.nd {t : List Rule} {m : Nat} (T : TabOk t m) : PNodup t := by
  have h := T.ord
  clear T
  induction t with
  | nil => exact fun _ h => nomatch h
  | cons x t ih =>
    have h' := List.pairwise_cons.mp h
    intro a ha b hb e
    rcases List.mem_cons.mp ha with z | z
    · rcases List.mem_cons.mp hb with y | y
      · rw [z, y]
      · subst z
        have := h'.1 b y
        rw [e] at this
        exact absurd this (List.lt_irrefl _)
    · rcases List.mem_cons.mp hb with y | y
      · subst y
        have := h'.1 a z
        rw [e] at this
        exact absurd this (List.lt_irrefl _)
      · exact ih h'.2 a z b y e
theorem ruleFor_eq {t : List Rule} {s : List Nat} {r : Rule} (nd : PNodup t) (h1 : r ∈ t) (h2 : r.p <+: s) (h3 : ∀ q ∈ t, q.p <+: s → q.p.length ≤ r.p.length) : ruleFor t s = some r := by
  cases e : ruleFor t s with
  | none => exact absurd h2 (ruleFor_none e r h1)
  | some q =>
    obtain ⟨g1, g2, g3⟩ := ruleFor_some e
    have l1 := h3 q g1 g2
    have l2 := g3 r h1 h2
    have : q.p = r.p := by
      obtain ⟨u, hu⟩ := g2
      obtain ⟨v, hv⟩ := h2
      have e1 : q.p = s.take q.p.length := by rw [← hu]; simp
      have e2 : r.p = s.take r.p.length := by rw [← hv]; simp
      rw [e1, e2, show q.p.length = r.p.length by omega]
    rw [nd q g1 r h1 this]
theorem ruleFor_more {t : List Rule} {s u : List Nat} {r : Rule} (h : ruleFor t s = some r) (hu : s <+: u) : ∃ q, ruleFor t u = some q := by
  cases e : ruleFor t u with
  | some q => exact ⟨q, rfl⟩
  | none =>
    obtain ⟨h1, h2, _⟩ := ruleFor_some h
    exact absurd (h2.trans hu) (ruleFor_none e r h1)
end DD

namespace DD
open PySem PySem.Spec PyProof.Rows L2

theorem seqS_assoc (a b c : Env → R Out) (ρ : Env) : seqS a (seqS b c) ρ = seqS (seqS a b) c ρ := by
  rw [seqS_eq, seqS_eq, seqS_eq]
  cases a ρ with
  | un => rfl
  | er x => rfl
  | ok o => cases o <;> rfl
theorem seq_if_t {k : Env → R Bool} {a a' b : Env → R Out} {ρ : Env} (h : k ρ = .ok true) : seqS (ifS k a a') b ρ = seqS a b ρ := by
  rw [seqS_eq, seqS_eq, ifS_eq, h, bind_ok, if_pos rfl]
theorem seq_if_f {k : Env → R Bool} {a a' b : Env → R Out} {ρ : Env} (h : k ρ = .ok false) : seqS (ifS k a a') b ρ = seqS a' b ρ := by
  rw [seqS_eq, seqS_eq, ifS_eq, h, bind_ok, if_neg Bool.false_ne_true]
/-! ### tables sorted -/
abbrev PSort (t : List Rule) : Prop := t.Pairwise fun a b => a.p < b.p
theorem eqv_pystr (x y : List Nat) : PyData.eqv (.str ⟨x.toArray⟩) (.str ⟨y.toArray⟩) = decide (x = y) := by
  by_cases h : x = y
  · subst h
    simp [PyData.eqv]
  · rw [decide_eq_false h]
    simp [PyData.eqv, h]
theorem rule_le (a b : Rule) (h : a.p ≠ b.p) : PySem.W.dataLe false toPy (ruleD a) (ruleD b) = !decide (b.p < a.p) := by
  show (!PySem.W.dataLt (toPy (ruleD b)) (toPy (ruleD a))) = _
  congr 1
  show PySem.W.dataLt (.tuple [.str ⟨b.p.toArray⟩, .int b.s, .str ⟨b.w.toArray⟩]) (.tuple [.str ⟨a.p.toArray⟩, .int a.s, .str ⟨a.w.toArray⟩]) = _
  rw [PySem.W.dataLt_tuple, PySem.W.dataLt_cons (by simp [PySem.W.alike]), eqv_pystr, if_neg (by simpa using fun e => h e.symm), PySem.W.dataLt_str]
def sortT (t : List Rule) : List Rule := t.mergeSort fun a b => PySem.W.dataLe false toPy (ruleD a) (ruleD b)
theorem sortD_tab (t : List Rule) : sortD (t.map ruleD) = (sortT t).map ruleD := by
  unfold sortD sortT
  exact (List.map_mergeSort (f := ruleD) (r := fun a b => PySem.W.dataLe false toPy (ruleD a) (ruleD b)) (s := PySem.W.dataLe false toPy) fun a _ b _ => rfl).symm
theorem sortT_perm (t : List Rule) : (sortT t).Perm t := List.mergeSort_perm _ _
theorem dataLe_trans (a b c : D) (h1 : PySem.W.dataLe false toPy a b = true) (h2 : PySem.W.dataLe false toPy b c = true) : PySem.W.dataLe false toPy a c = true := (PySem.W.sortLe_total _ _ _).trans _ _ _ h1 h2
theorem dataLe_total (a b : D) : (PySem.W.dataLe false toPy a b || PySem.W.dataLe false toPy b a) = true := by
  rw [Bool.or_eq_true]
  exact (PySem.W.sortLe_total _ _ _).total _ _
theorem sortD_pw (ds : List D) : (sortD ds).Pairwise fun a b => PySem.W.dataLe false toPy a b = true := List.pairwise_mergeSort dataLe_trans dataLe_total ds
theorem sortT_sorted {t : List Rule} (nd : (t.map (·.p)).Nodup) : PSort (sortT t) := by
  have pw : (sortT t).Pairwise fun a b => PySem.W.dataLe false toPy (ruleD a) (ruleD b) = true := List.pairwise_mergeSort (le := fun a b : Rule => PySem.W.dataLe false toPy (ruleD a) (ruleD b)) (fun a b c h1 h2 => dataLe_trans _ _ _ h1 h2) (fun a b => dataLe_total _ _) t
  have nd' : (sortT t).Pairwise fun a b => a.p ≠ b.p := List.pairwise_map.mp (((sortT_perm t).map Rule.p).nodup_iff.mpr nd)
  refine (pw.and nd').imp fun {a b} h => ?_
  have := h.1
  rw [rule_le a b h.2] at this
  have n1 : ¬ b.p < a.p := by simpa using this
  by_cases z : a.p < b.p
  · exact z
  · exact absurd (sle_antisymm n1 z) h.2
theorem psort_unique : ∀ {a b : List Rule}, a.Perm b → PSort a → PSort b → a = b
  | [], b, p, _, _ => List.Perm.nil_eq p
  | x :: xs, [], p, _, _ => by cases (List.Perm.eq_nil p)
  | x :: xs, y :: ys, p, ha, hb => by
    have ha' := List.pairwise_cons.mp ha
    have hb' := List.pairwise_cons.mp hb
    have e : x = y := by
      rcases List.mem_cons.mp (p.mem_iff.mp (List.mem_cons_self (a := x))) with e | e
      · exact e
      · rcases List.mem_cons.mp (p.mem_iff.mpr (List.mem_cons_self (a := y))) with e2 | e2
        · exact e2.symm
        · exact absurd (List.lt_trans (ha'.1 y e2) (hb'.1 x e)) (List.lt_irrefl _)
    subst e
    rw [psort_unique (List.Perm.cons_inv p) ha'.2 hb'.2]
theorem psort_nodup {t : List Rule} (h : PSort t) : (t.map (·.p)).Nodup := List.pairwise_map.mpr (h.imp fun {a b} h e => by rw [e] at h; exact List.lt_irrefl _ h)
theorem nodup_pn {t : List Rule} (h : (t.map (·.p)).Nodup) : PNodup t := by
  induction t with
  | nil => exact fun _ h => nomatch h
  | cons x t ih =>
    rw [List.map_cons, List.nodup_cons] at h
    intro a ha b hb e
    rcases List.mem_cons.mp ha with z | z <;> rcases List.mem_cons.mp hb with y | y
    · rw [z, y]
    · subst z
      exact absurd (e ▸ List.mem_map.mpr ⟨b, y, rfl⟩ : a.p ∈ t.map (·.p)) h.1
    · subst y
      exact absurd (e ▸ List.mem_map.mpr ⟨a, z, rfl⟩ : b.p ∈ t.map (·.p)) h.1
    · exact ih h.2 a z b y e
theorem sort_ok_tab (t : List Rule) : SortOk (t.map ruleD) := by
  refine ⟨plains_all fun x hx => ?_, fun x hx y hy => ?_, .inl fun x hx => ?_⟩
  · obtain ⟨r, _, rfl⟩ := List.mem_map.mp hx
    exact plain_rule r 7
  · obtain ⟨r, _, rfl⟩ := List.mem_map.mp hx
    obtain ⟨q, _, rfl⟩ := List.mem_map.mp hy
    simp [ruleD, toPy, toPys, PySem.W.alike, PySem.W.alikeAll]
  · obtain ⟨r, _, rfl⟩ := List.mem_map.mp hx
    rfl
theorem sorted_tab (t : List Rule) : dSortedG [tabD t] = .ok (.lst ((sortT t).map ruleD)) := by
  show (if SortOk (t.map ruleD) then _ else _) = _
  rw [if_pos (sort_ok_tab t), sortD_tab]

/-! ### words -/
def wordsL (t : List Rule) : List (List Nat) := sortL (dedL ((t.filter fun r => decide (0 < r.s)).map (·.w)))
theorem wordsL_mem (t : List Rule) (z : List Nat) : z ∈ wordsL t ↔ ∃ r ∈ t, 0 < r.s ∧ r.w = z := by
  unfold wordsL
  rw [(sortL_perm _).mem_iff, dedL_mem, List.mem_map]
  constructor
  · rintro ⟨r, h1, h2⟩
    rw [List.mem_filter] at h1
    exact ⟨r, h1.1, by simpa using h1.2, h2⟩
  · rintro ⟨r, h1, h2, h3⟩
    exact ⟨r, List.mem_filter.mpr ⟨h1, by simpa using h2⟩, h3⟩
theorem filter_map' {α β : Type} (f : α → β) (p : β → Bool) (l : List α) : (l.map f).filter p = (l.filter fun a => p (f a)).map f := by
  rw [List.filter_map]
  rfl
theorem dSS_lst (zs : List (List Nat)) (h : zs.length < 4095) : dSS [.lst (zs.map .str)] = .ok (sortSet zs) := by
  show (match texts (zs.map D.str) with | some zs => if zs.length < 4095 then R.ok (sortSet zs) else .un | none => .un) = _
  rw [texts_map]
  exact if_pos h
theorem words_of_ok (t : List Rule) (h : t.length < 4000) : f_words_of [tabD t] = .ok (.tup ((wordsL t).map .str)) := by
  have run : f_words_of [tabD t] = (p_words_of [.d (tabD t), .no]).bind finF := rfl
  rw [run]
  unfold p_words_of
  simp only [retS_eq, calls_eq, aCons_eq, aNil_eq, compV_eq, itVn_eq, vI_zero, noEr_ok', tabD, items_tup, bind_ok]
  rw [compF_all (fun d => match d with | .tup [_, .int s, _] => decide (0 < s) | _ => false) (fun d => match d with | .tup [_, _, w] => w | d => d)]
  · rw [filter_map', List.map_map]
    have e : ((fun d => match d with | D.tup [_, _, w] => w | d => d) ∘ ruleD) = fun r : Rule => D.str r.w := by
      funext r
      rfl
    have e2 : (fun a : Rule => match ruleD a with | D.tup [_, .int s, _] => decide (0 < s) | _ => false) = fun r => decide (0 < r.s) := by
      funext r
      rfl
    rw [e, e2]
    simp only [bind_ok]
    have e3 : ((t.filter fun r => decide (0 < r.s)).map fun r : Rule => D.str r.w) = ((t.filter fun r => decide (0 < r.s)).map (·.w)).map D.str := by
      rw [List.map_map]
      rfl
    rw [e3, dSS_lst _ (by rw [List.length_map]; exact Nat.lt_of_le_of_lt (List.length_filter_le _ _) (by omega))]
    simp only [bind_ok, sortSet, dTuple_lst, finF_rt]
    rfl
  · intro x hx
    obtain ⟨r, _, rfl⟩ := List.mem_map.mp hx
    simp [ruleD, wipeE]
  · intro x hx _
    obtain ⟨r, _, rfl⟩ := List.mem_map.mp hx
    simp [ruleD, wipeE]
theorem words_eq {a b : List (List Nat)} (h : ∀ z, z ∈ a ↔ z ∈ b) : sortL (dedL a) = sortL (dedL b) := by
  rw [ded_of (dedL_nodup a) (zs := b) fun z => (dedL_mem a z).trans (h z)]
theorem nice_strs (l : List (List Nat)) : D.nices (l.map .str) = true := nices_all fun x hx => by
  obtain ⟨z, _, rfl⟩ := List.mem_map.mp hx
  rfl
theorem plain_strs (l : List (List Nat)) (n : Nat) : D.plains (l.map .str) n = true := plains_all fun x hx => by
  obtain ⟨z, _, rfl⟩ := List.mem_map.mp hx
  simp
/-- a rule more -/
theorem ruleFor_in {t u : List Rule} {s : List Nat} (nu : PNodup u) (h : ∀ q, q.p <+: s → (q ∈ u ↔ q ∈ t)) (nt : PNodup t) : ruleFor u s = ruleFor t s := by
  cases e : ruleFor t s with
  | none =>
    cases e2 : ruleFor u s with
    | none => rfl
    | some r =>
      obtain ⟨h1, h2, _⟩ := ruleFor_some e2
      exact absurd h2 (ruleFor_none e r ((h r h2).mp h1))
  | some r =>
    obtain ⟨h1, h2, h3⟩ := ruleFor_some e
    exact ruleFor_eq nu ((h r h2).mpr h1) h2 fun q hq hp => h3 q ((h q hp).mp hq) hp
end DD

namespace DD
open PySem PySem.Spec PyProof.Rows L2

theorem seq3 {a b c d : Env → R Out} {ρ ρ' : Env} (h : seqS a (seqS b c) ρ = .ok (.nx ρ')) : seqS a (seqS b (seqS c d)) ρ = d ρ' := by
  have e : seqS a (seqS b (seqS c d)) ρ = seqS (seqS a (seqS b c)) d ρ := by
    simp only [seqS_eq]
    cases a ρ with
    | un => rfl
    | er x => rfl
    | ok o =>
      cases o with
      | nx r =>
        simp only [bind_ok, seqO_nx, seqS_eq]
        cases b r with
        | un => rfl
        | er x => rfl
        | ok o => cases o <;> rfl
      | _ => rfl
  rw [e, seqS_eq, h, bind_ok, seqO_nx]
/-! ### small tables -/
structure Sm (r : Rule) : Prop where
  dig : ∀ c ∈ r.p, c ∈ [48, 49, 50, 57]
  len : r.p.length ≤ 3
  siz : r.s ≤ 3
  wrd : r.w ∈ [[], [97], [98], [99, 100]]
theorem small_loop1 (n k d : Int) (fm : Slot) (hd : 0 ≤ d) (a b c : Slot) : ∀ (ks : List Int) (s : List Nat) (x : Slot), (∀ c ∈ s, c ∈ [48, 49, 50, 57]) → s.length + ks.length ≤ 1000 →
    ∃ t x', forF (to1 5) b_l_small_1 (ks.map D.int) [.d (.int n), fm, .d (.int k), .d (.int d), .d (.str s), x, a, b, c] = .ok (.nx [.d (.int n), fm, .d (.int k), .d (.int d), .d (.str t), x', a, b, c]) ∧ (∀ c ∈ t, c ∈ [48, 49, 50, 57]) ∧ t.length = s.length + ks.length
  | [], s, x, hs, _ => ⟨s, x, rfl, hs, rfl⟩
  | j :: ks, s, x, hs, hl => by
    have hl' : s.length + (ks.length + 1) ≤ 1000 := hl
    have g := drawn_nn d j
    obtain ⟨z, h1, h2⟩ := atI_in (xs := [48, 49, 50, 57]) (i := drawn d j / 16 % 4) (by omega) (by simp; omega)
    have hd' : ∀ c ∈ s ++ [z], c ∈ [48, 49, 50, 57] := fun c hc => by
      rcases List.mem_append.mp hc with h | h
      · exact hs c h
      · have : c = z := by simpa using h
        rw [this]
        exact h2
    obtain ⟨t, x', e, ht, htl⟩ := small_loop1 n k d fm hd a b c ks (s ++ [z]) (.d (.int j)) hd' (by rw [List.length_append, List.length_singleton]; omega)
    refine ⟨t, x', ?_, ht, by rw [htl, List.length_append, List.length_singleton, List.length_cons]; omega⟩
    rw [List.map_cons, forF_step (ρ2 := [.d (.int n), fm, .d (.int k), .d (.int d), .d (.str (s ++ [z])), .d (.int j), a, b, c]) rfl (.inl ?_), e]
    unfold b_l_small_1
    simp [l_drawn, dDiv_ok, dMod_ok, h1]
    rw [dAdd_str (by unfold line; rw [List.length_singleton]; omega)]
    simp
theorem rput_mem {rs : List Rule} {r q : Rule} (h : q ∈ rput rs r) : q = r ∨ q ∈ rs := by
  unfold rput at h
  split at h
  · obtain ⟨x, h1, h2⟩ := List.mem_map.mp h
    split at h2
    · exact .inl h2.symm
    · exact .inr (h2 ▸ h1)
  · rcases List.mem_append.mp h with h | h
    · exact .inr h
    · exact .inl (List.mem_singleton.mp h)
theorem sortedG_dict {rs : List Rule} (h : rs.length < 64) : dSortedG [.dct (rs.map encR)] = .ok (.lst ((sortL (rs.map (·.p))).map .str)) := by
  show (if (rs.map encR).length < 64 then _ else _) = _
  rw [if_pos (by rw [List.length_map]; exact h), List.map_map]
  rfl
theorem small_step (n k : Int) (rs : List Rule) (h : DictOk rs) (sm : ∀ r ∈ rs, Sm r) (hl : rs.length < 60) (a b c d e f : Slot) :
    ∃ rs' a' b' c' d' e' f', b_l_small_2 [.d (.int n), .M (rs.map encR), .d (.int k), a, b, c, d, e, f] = .ok (.nx [.d (.int n), .M (rs'.map encR), .d (.int k), a', b', c', d', e', f']) ∧ DictOk rs' ∧ (∀ r ∈ rs', Sm r) ∧ rs'.length ≤ rs.length + 1 := by
  have g := drawn_nn n (60 + k)
  have hdr := l_drawn n (60 + k)
  generalize drawn n (60 + k) = v at g hdr
  have hv : 0 ≤ v := g.1
  obtain ⟨m, hm⟩ : ∃ m : Nat, v / 16 % 4 = m := ⟨(v / 16 % 4).toNat, by omega⟩
  obtain ⟨p0, x', e1, dp, lp⟩ := small_loop1 n k v (.M (rs.map encR)) hv d e f ((List.range m).map fun i => 0 + (i : Nat)) [] c (fun _ h => nomatch h) (by simp; omega)
  have lp : p0.length ≤ 3 := by simp at lp; omega
  have first : (seqS (setS 3 (callF 2 f_l_drawn (aCons (vI 0) (aCons (op2 dAdd (cst (.int 60)) (vI 2)) (aNil))))) (seqS (setS 4 (cst (.str []))) (forS (itR dRng1 (aCons (op2 dMod (op2 dDiv (vI 3) (cst (.int 16))) (cst (.int 4))) (aNil))) (to1 5) (b_l_small_1)))) [.d (.int n), .M (rs.map encR), .d (.int k), a, b, c, d, e, f] = .ok (.nx [.d (.int n), .M (rs.map encR), .d (.int k), .d (.int v), .d (.str p0), x', d, e, f]) := by
    simp [hdr, dDiv_ok, dMod_ok, hm]
    rw [dRng1_ok (by unfold line; omega), bind_ok, rngL_eq]
    exact e1
  -- the prefix
  have second : ∃ (p : List Nat) (d' : Slot), (ifS (tmpT 1 (andT (tst (op2 dNeE (vI 1) (cst (.dct [])))) (tst (op2 dGt (op2 dMod (op2 dDiv (vI 3) (cst (.int 4096))) (cst (.int 3))) (cst (.int 0)))))) (seqS (setS 6 (tmpV 1 (op2 dIx (calls dSortedG (aCons (vI 1) (aNil))) (op2 dMod (op2 dDiv (vI 3) (cst (.int 16384))) (calls dLen (aCons (vI 1) (aNil))))))) (setS 4 (slcV (op2 dAdd (vI 6) (op2 dIx (cst (.str [48, 49, 50, 57])) (op2 dMod (op2 dDiv (vI 3) (cst (.int 131072))) (cst (.int 4))))) (oNo) (oSome (cst (.int 3)))))) (skipS)) [.d (.int n), .M (rs.map encR), .d (.int k), .d (.int v), .d (.str p0), x', d, e, f] = .ok (.nx [.d (.int n), .M (rs.map encR), .d (.int k), .d (.int v), .d (.str p), x', d', e, f]) ∧ (∀ c ∈ p, c ∈ [48, 49, 50, 57]) ∧ p.length ≤ 3 := by
    have fz : ∀ ρ : Env, ρ[1]? = some (.M (rs.map encR)) → frzE 1 ρ = ρ.set 1 (.d (.dct (rs.map encR))) := fun ρ h => by
      unfold frzE
      rw [h]
    have c3 : ∀ z : List Nat, cutL z none (some 3) = z.take 3 := fun z => cutL_take z 3
    by_cases hc : rs.length = 0
    · refine ⟨p0, d, ?_, dp, lp⟩
      simp [fz, hc]
    · by_cases hc2 : 0 < v / 4096 % 3
      · have q1 : 0 ≤ v / 16384 % (rs.length : Int) := Int.emod_nonneg _ (by omega)
        have q2 : v / 16384 % (rs.length : Int) < rs.length := Int.emod_lt_of_pos _ (by omega)
        obtain ⟨y, a1, a2⟩ := atI_in (xs := (sortL (rs.map (·.p))).map D.str) (i := v / 16384 % (rs.length : Int)) q1 (by rw [List.length_map, (sortL_perm _).length_eq, List.length_map]; exact q2)
        obtain ⟨q, hq, rfl⟩ := List.mem_map.mp a2
        obtain ⟨r, hr, rfl⟩ := List.mem_map.mp ((sortL_perm _).mem_iff.mp hq)
        have S := sm r hr
        obtain ⟨z, h1, h2⟩ := atI_in (xs := [48, 49, 50, 57]) (i := v / 131072 % 4) (by omega) (by simp; omega)
        refine ⟨(r.p ++ [z]).take 3, .d (.str r.p), ?_, fun c hc => ?_, by rw [List.length_take]; omega⟩
        · have ad : dAdd (.str r.p) (.str [z]) = .ok (.str (r.p ++ [z])) := dAdd_str (by have := S.len; unfold line; simp; omega)
          have pos : (0 : Int) < rs.length := by omega
          have hc' : ¬ rs = [] := fun e => hc (by rw [e]; rfl)
          have lend : dLen [.dct (rs.map encR)] = .ok (.int rs.length) := by
            show R.ok (D.int ((rs.map encR).length : Int)) = _
            rw [List.length_map]
          have dm : dMod (.int (v / 16384)) (.int rs.length) = .ok (.int (v / 16384 % (rs.length : Int))) := dMod_ok pos
          have fl : ∀ s : List Nat, flatR (.ok (.str s)) = .ok (.str s) := fun _ => rfl
          simp [fz, hc', dDiv_ok, dMod_ok, hc2, sortedG_dict (show rs.length < 64 by omega), lend, dm, a1, fl, h1, ad, c3]
        · rcases List.mem_append.mp (List.mem_of_mem_take hc) with h | h
          · exact S.dig c h
          · have : c = z := by simpa using h
            rw [this]
            exact h2
      · refine ⟨p0, d, ?_, dp, lp⟩
        have hc' : ¬ rs = [] := fun e => hc (by rw [e]; rfl)
        simp [fz, hc', dDiv_ok, dMod_ok, hc2]
  obtain ⟨p, d', e2, dp, lp⟩ := second
  obtain ⟨z, w1, w2⟩ := atI_in (xs := [D.str [97], .str [97], .str [98], .str [99, 100]]) (i := v / 256 % 4) (by omega) (by simp; omega)
  have : ∃ w, z = .str w ∧ w ∈ words4 ∧ w ∈ [[], [97], [98], [99, 100]] := by
    simp at w2
    rcases w2 with h | h | h
    · exact ⟨_, h, by decide, by decide⟩
    · exact ⟨_, h, by decide, by decide⟩
    · exact ⟨_, h, by decide, by decide⟩
  obtain ⟨w, rfl, hw, hw2⟩ := this
  generalize hs : (if (p.length : Int) > 1 then (p.length : Int) else 1) + v / 64 % 3 = sz
  have sz1 : 1 ≤ sz ∧ (p.length : Int) ≤ sz := by
    subst hs
    split <;> omega
  have pdig : Digs p := fun c hc => by
    have := dp c hc
    simp at this
    unfold Dig
    omega
  obtain ⟨r, hr⟩ : ∃ r : Rule, r = if (v / 1024 % 4 == 0) = true then ⟨p, 0, []⟩ else ⟨p, sz, w⟩ := ⟨_, rfl⟩
  have rp : r.p = p := by rw [hr]; split <;> rfl
  have third : (seqS (setS 7 (op2 dAdd (calls dMax2 (aCons (cst (.int 1)) (aCons (calls dLen (aCons (vI 4) (aNil))) (aNil)))) (op2 dMod (op2 dDiv (vI 3) (cst (.int 64))) (cst (.int 3))))) (seqS (setS 8 (tupV (aCons (vI 4) (aCons (vI 7) (aCons (op2 dIx (tupV (aCons (cst (.str [97])) (aCons (cst (.str [97])) (aCons (cst (.str [98])) (aCons (cst (.str [99, 100])) (aNil)))))) (op2 dMod (op2 dDiv (vI 3) (cst (.int 256))) (cst (.int 4)))) (aNil)))))) (ifS (tst (op2 dEq (op2 dMod (op2 dDiv (vI 3) (cst (.int 1024))) (cst (.int 4))) (cst (.int 0)))) (setS 8 (tupV (aCons (vI 4) (aCons (cst (.int 0)) (aCons (cst (.str [])) (aNil)))))) (skipS)))) [.d (.int n), .M (rs.map encR), .d (.int k), .d (.int v), .d (.str p), x', d', e, f] = .ok (.nx [.d (.int n), .M (rs.map encR), .d (.int k), .d (.int v), .d (.str p), x', d', .d (.int sz), .d (ruleD r)]) := by
    by_cases hz : (v / 1024 % 4 == 0) = true
    · rw [if_pos hz] at hr
      simp [dDiv_ok, dMod_ok, w1, hs, hz, hr, ruleD]
    · rw [if_neg hz] at hr
      rw [Bool.not_eq_true] at hz
      simp [dDiv_ok, dMod_ok, w1, hs, hz, hr, ruleD]
  have run : b_l_small_2 [.d (.int n), .M (rs.map encR), .d (.int k), a, b, c, d, e, f] = (ifS (tst (op2 dLt (vI 7) (cst (.int 4)))) (putS 1 (vI 4) (vI 8)) (skipS)) [.d (.int n), .M (rs.map encR), .d (.int k), .d (.int v), .d (.str p), x', d', .d (.int sz), .d (ruleD r)] := by
    unfold b_l_small_2
    rw [seq3 first, seqS_eq, e2, bind_ok, seqO_nx, seq3 third]
  rw [run]
  by_cases h4 : sz < 4
  · have rok : RuleOk r := by
      rw [hr]
      split
      · exact ⟨pdig, by show p.length ≤ 7; omega, .inl ⟨rfl, rfl⟩⟩
      · exact ⟨pdig, by show p.length ≤ 7; omega, .inr ⟨sz1.1, by show sz ≤ 12; omega, sz1.2, hw⟩⟩
    have rsm : Sm r := by
      rw [hr]
      split
      · exact ⟨dp, lp, by show (0 : Int) ≤ 3; omega, by simp⟩
      · exact ⟨dp, lp, by show sz ≤ 3; omega, hw2⟩
    obtain ⟨h2, h3⟩ := h.put rok
    refine ⟨rput rs r, .d (.int v), .d (.str p), x', d', .d (.int sz), .d (ruleD r), ?_, h2, fun q hq => (rput_mem hq).elim (fun e => e ▸ rsm) (sm q), h3⟩
    rw [ifS_eq, show (tst (op2 dLt (vI 7) (cst (.int 4)))) [.d (.int n), .M (rs.map encR), .d (.int k), .d (.int v), .d (.str p), x', d', .d (.int sz), .d (ruleD r)] = .ok true by simp [h4], bind_ok, if_pos rfl]
    rw [putS_run (kvs := rs.map encR) (key := r.p) (d := ruleD r) rfl rfl (by rw [rp]; rfl) (by rw [List.length_map]; unfold line; omega), kPut_enc]
    rfl
  · refine ⟨rs, .d (.int v), .d (.str p), x', d', .d (.int sz), .d (ruleD r), ?_, h, sm, Nat.le_succ _⟩
    simp [h4]
theorem small_loop (n : Int) : ∀ (ks : List Int) (rs : List Rule) (x a b c d e f : Slot), DictOk rs → (∀ r ∈ rs, Sm r) → rs.length + ks.length < 60 →
    ∃ rs' x' a' b' c' d' e' f', forF (to1 2) b_l_small_2 (ks.map D.int) [.d (.int n), .M (rs.map encR), x, a, b, c, d, e, f] = .ok (.nx [.d (.int n), .M (rs'.map encR), x', a', b', c', d', e', f']) ∧ DictOk rs' ∧ (∀ r ∈ rs', Sm r) ∧ rs'.length ≤ rs.length + ks.length
  | [], rs, x, a, b, c, d, e, f, h, sm, _ => ⟨rs, x, a, b, c, d, e, f, rfl, h, sm, Nat.le_refl _⟩
  | k :: ks, rs, x, a, b, c, d, e, f, h, sm, hl => by
    have hl : rs.length + (ks.length + 1) < 60 := hl
    obtain ⟨rs1, a1, b1, c1, d1, e1, f1, q1, h1, sm1, l1⟩ := small_step n k rs h sm (by omega) a b c d e f
    obtain ⟨rs2, x2, a2, b2, c2, d2, e2, f2, q2, h2, sm2, l2⟩ := small_loop n ks rs1 (.d (.int k)) a1 b1 c1 d1 e1 f1 h1 sm1 (by omega)
    refine ⟨rs2, x2, a2, b2, c2, d2, e2, f2, ?_, h2, sm2, by rw [List.length_cons]; omega⟩
    rw [List.map_cons, forF_step rfl (.inl q1), q2]
theorem l_small (n : Int) (hn : 0 ≤ n) : ∃ t, f_l_small [.int n] = .ok (tabD t) ∧ TabOk t 5 ∧ ∀ r ∈ t, Sm r := by
  obtain ⟨r, hr⟩ : ∃ r : Nat, n % 6 = r := ⟨(n % 6).toNat, by omega⟩
  obtain ⟨rs, x, a, b, c, d, e, f, e1, ho, sm, hlen⟩ := small_loop n ((List.range r).map fun i => 0 + (i : Nat)) [] .no .no .no .no .no .no .no ⟨by simp, fun _ h => nomatch h⟩ (fun _ h => nomatch h) (by simp; omega)
  have hlr : rs.length ≤ 5 := by
    simp at hlen
    omega
  have T := tab_of ho
  have hm : ∀ k ∈ sortL (rs.map (·.p)), k ∈ rs.map (·.p) := fun k hk => (sortL_perm _).mem_iff.mp hk
  refine ⟨(sortL (rs.map (·.p))).map (rget rs), ?_, ⟨T.ok, Nat.le_trans T.len hlr, T.ord⟩, fun q hq => ?_⟩
  · show (p_l_small [.d (.int n), .no, .no, .no, .no, .no, .no, .no, .no]).bind finF = _
    unfold p_l_small
    simp only [seqS_eq, newMS_eq, bind_ok, seqO_nx, forS_eq, itR_eq, aCons_eq, aNil_eq, op2_eq, vI_zero, vI_succ, cst_eq, List.set_cons_succ, List.set_cons_zero]
    rw [dMod_ok (by omega), bind_ok, hr, bind_ok, dRng1_ok (by unfold line; omega), bind_ok, rngL_eq]
    have e1 : forF (to1 2) b_l_small_2 (List.map D.int (List.map (fun (i : Nat) => 0 + (i : Int)) (List.range r))) [.d (.int n), .M [], .no, .no, .no, .no, .no, .no, .no] = _ := e1
    rw [e1, bind_ok, seqO_nx]
    simp only [frzS_eq, retS_eq, calls_eq, aCons_eq, aNil_eq, compV_eq, itVn_eq, frzE, List.getElem?_cons_succ, List.getElem?_cons_zero, List.set_cons_succ, List.set_cons_zero, vI_zero, vI_succ, bind_ok]
    rw [sortedG_dict (by omega), noEr_ok', bind_ok, items_lst, bind_ok]
    rw [compF_map (fun d => match d with | .str k => ruleD (rget rs k) | d => d)]
    · simp only [bind_ok, dTuple_lst, finF_rt, List.map_map, tabD]
      rfl
    · intro d hd
      obtain ⟨k, hk, rfl⟩ := List.mem_map.mp hd
      simp only [op2_eq, wipeE, List.set_cons_succ, List.set_cons_zero, vI_zero, vI_succ, bind_ok]
      show optR (kGet (rs.map encR) k) = _
      rw [(kGet_enc rs k (hm k hk)).1]
      rfl
  · obtain ⟨k, hk, rfl⟩ := List.mem_map.mp hq
    exact sm _ (kGet_enc rs k (hm k hk)).2.1
end DD

namespace DD
open PySem PySem.Spec PyProof.Rows L2

/-! ### a table near another one -/
theorem eqv_tab_nil (t : List Rule) : D.eqv (tabD t) (.tup []) = decide (t = []) := by
  cases t <;> rfl
theorem dEq_tab_nil (t : List Rule) : dEq (tabD t) (.tup []) = .ok (.bl (decide (t = []))) := by
  rw [dEq_ok (plain_tab t 58) rfl, eqv_tab_nil]
theorem take_drop_mem {t : List Rule} {i : Nat} {q r : Rule} (h : q ∈ t.take i ++ r :: t.drop (i + 1)) : q = r ∨ q ∈ t := by
  rcases List.mem_append.mp h with h | h
  · exact .inr (List.mem_of_mem_take h)
  · rcases List.mem_cons.mp h with h | h
    · exact .inl h
    · exact .inr (List.mem_of_mem_drop h)
theorem set_eq {t : List Rule} {i : Nat} (h : i < t.length) (r : Rule) : t.take i ++ r :: t.drop (i + 1) = t.set i r := by
  rw [List.set_eq_take_append_cons_drop, if_pos h]
theorem pw_set {t : List Rule} {i : Nat} {r q : Rule} (h : PSort t) (hi : t[i]? = some q) (e : r.p = q.p) : PSort (t.set i r) := by
  have e2 : (t.set i r).map (·.p) = t.map (·.p) := by
    obtain ⟨hl, hq⟩ := List.getElem?_eq_some_iff.mp hi
    rw [List.map_set, e, ← hq, show (t[i]).p = (t.map (·.p))[i]'(by simpa using hl) by simp]
    exact List.set_getElem_self _
  have h1 : (t.map (·.p)).Pairwise (· < ·) := List.pairwise_map.mpr h
  rw [← e2] at h1
  exact List.pairwise_map.mp h1
theorem l_near (t : List Rule) (n : Int) (m : Nat) (T : TabOk t m) (hm : 5 ≤ m) (hm2 : m ≤ 60) (hn : 0 ≤ n) : ∃ u, f_l_near [tabD t, .int n] = .ok (tabD u) ∧ TabOk u m := by
  have run : f_l_near [tabD t, .int n] = (p_l_near [.d (tabD t), .d (.int n), .no, .no, .no, .no, .no]).bind finF := rfl
  rw [run]
  unfold p_l_near
  by_cases h0 : t = [] ∨ n % 5 = 0
  · obtain ⟨u, e, U, _⟩ := l_small (n / 5) (by omega)
    refine ⟨u, ?_, U.ok, Nat.le_trans U.len hm, U.ord⟩
    have c : (orT (tst (op2 dEq (vI 0) (tupV (aNil)))) (tst (op2 dEq (op2 dMod (vI 1) (cst (.int 5))) (cst (.int 0))))) [.d (tabD t), .d (.int n), .no, .no, .no, .no, .no] = .ok true := by
      by_cases z : t = []
      · simp [dEq_tab_nil, z]
      · have z2 := h0.resolve_left z
        simp [dEq_tab_nil, z, dMod_ok, z2]
    rw [seq_if_t c, seqS_eq]
    simp [dDiv_ok, e]
  · have h1 : ¬ t = [] := fun z => h0 (.inl z)
    have h2 : ¬ n % 5 = 0 := fun z => h0 (.inr z)
    have c : (orT (tst (op2 dEq (vI 0) (tupV (aNil)))) (tst (op2 dEq (op2 dMod (vI 1) (cst (.int 5))) (cst (.int 0))))) [.d (tabD t), .d (.int n), .no, .no, .no, .no, .no] = .ok false := by
      simp [dEq_tab_nil, h1, dMod_ok, h2]
    rw [seq_if_f c]
    have hpos : 0 < t.length := List.length_pos_iff.mpr h1
    have q1 : 0 ≤ n / 8 % (t.length : Int) := Int.emod_nonneg _ (by omega)
    have q2 : n / 8 % (t.length : Int) < t.length := Int.emod_lt_of_pos _ (by omega)
    obtain ⟨i, hi⟩ : ∃ i : Nat, n / 8 % (t.length : Int) = i := ⟨(n / 8 % (t.length : Int)).toNat, by omega⟩
    have hil : i < t.length := by omega
    obtain ⟨x, a1, a2⟩ := atI_ok (xs := t.map ruleD) (i := (i : Int)) (by omega) (by rw [List.length_map]; omega)
    obtain ⟨r, hr, rfl⟩ : ∃ r, t[i]? = some r ∧ ruleD r = x := by
      rw [Int.toNat_natCast, List.getElem?_map, List.getElem?_eq_getElem hil] at a2
      exact ⟨t[i], List.getElem?_eq_getElem hil, by simpa using a2⟩
    have rm : r ∈ t := List.mem_of_getElem? hr
    have R := T.ok r rm
    have dm : dMod (.int (n / 8)) (.int t.length) = .ok (.int i) := by rw [dMod_ok (by omega), hi]
    have head : (seqS (setS 2 (op2 dMod (op2 dDiv (vI 1) (cst (.int 8))) (calls dLen (aCons (vI 0) (aNil))))) (unpS [3, 4, 5] (op2 dIx (vI 0) (vI 2)))) [.d (tabD t), .d (.int n), .no, .no, .no, .no, .no] = .ok (.nx [.d (tabD t), .d (.int n), .d (.int i), .d (.str r.p), .d (.int r.s), .d (.str r.w), .no]) := by
      simp [tabD, dDiv_ok, dm, a1, ruleD]
    have c1 : cutL (t.map ruleD) none (some (i : Int)) = (t.take i).map ruleD := by rw [cutL_take, List.map_take]
    have c2 : cutL (t.map ruleD) (some ((i : Int) + 1)) none = (t.drop (i + 1)).map ruleD := by
      rw [show ((i : Int) + 1) = ((i + 1 : Nat) : Int) by omega, cutL_drop, List.map_drop]
    have skp : seqS skipS (seqS (setS 2 (op2 dMod (op2 dDiv (vI 1) (cst (.int 8))) (calls dLen (aCons (vI 0) (aNil))))) (seqS (unpS [3, 4, 5] (op2 dIx (vI 0) (vI 2))) skipS)) = seqS skipS (seqS (setS 2 (op2 dMod (op2 dDiv (vI 1) (cst (.int 8))) (calls dLen (aCons (vI 0) (aNil))))) (seqS (unpS [3, 4, 5] (op2 dIx (vI 0) (vI 2))) skipS)) := rfl
    rw [seqS_eq, skipS_eq, bind_ok, seqO_nx, seqS_assoc, seqS_eq, head, bind_ok, seqO_nx]
    have tl : t.length ≤ 60 := Nat.le_trans T.len hm2
    have ad2 : ∀ a b : List Rule, a.length + b.length ≤ 200 → dAdd (.tup (a.map ruleD)) (.tup (b.map ruleD)) = .ok (tabD (a ++ b)) := fun a b h => by
      rw [dAdd_tup (by rw [List.length_map, List.length_map]; unfold line; omega), ← List.map_append]
      rfl
    have lt1 : (t.take i).length = i := by rw [List.length_take]; omega
    have lt2 : (t.drop (i + 1)).length ≤ t.length := by rw [List.length_drop]; omega
    have put : ∀ q : Rule, q.p = r.p → RuleOk q → TabOk (t.take i ++ q :: t.drop (i + 1)) m := fun q e Q => by
      rw [set_eq hil]
      refine ⟨fun z hz => ?_, by rw [List.length_set]; exact T.len, pw_set T.ord hr e⟩
      rw [← set_eq hil] at hz
      exact (take_drop_mem hz).elim (fun e => e ▸ Q) (T.ok z)
    by_cases k1 : n % 5 = 1
    · refine ⟨t.take i ++ t.drop (i + 1), ?_, ?_⟩
      · have tE : ∀ l : List Rule, tabD l = .tup (l.map ruleD) := fun _ => rfl
        have a2 := ad2 (t.take i) (t.drop (i + 1)) (by omega)
        simp only [seqS_eq, ifS_eq, tst_eq, op2_eq, vI_zero, vI_succ, cst_eq, bind_ok, dMod_ok (show (0 : Int) < 5 by decide), dEq_int, asB_bl, k1, beq_self_eq_true, if_true, retS_eq, slcV_eq, tE, oNo_eq, oSome_eq, asI_int, dCut_tup, c1, c2, dAdd_int, a2, seqO_rt, finF_rt]
      · have sub : (t.take i ++ t.drop (i + 1)).Sublist t := by
          conv => rhs; rw [← List.take_append_drop i t]
          exact List.Sublist.append (List.Sublist.refl _) (List.drop_sublist_drop_left t (Nat.le_succ i))
        exact ⟨fun q hq => T.ok q (sub.subset hq), Nat.le_trans sub.length_le T.len, T.ord.sublist sub⟩
    · have c3 : (tst (op2 dEq (op2 dMod (vI 1) (cst (.int 5))) (cst (.int 1)))) [.d (tabD t), .d (.int n), .d (.int i), .d (.str r.p), .d (.int r.s), .d (.str r.w), .no] = .ok false := by
        simp [dMod_ok, k1]
      rw [seq_if_f c3, seqS_eq, skipS_eq, bind_ok, seqO_nx]
      by_cases k2 : n % 5 = 2 ∧ 0 < r.s
      · obtain ⟨z, w1, w2⟩ := atI_in (xs := [D.str [97], .str [98], .str [99, 100]]) (i := n / 64 % 3) (by omega) (by simp; omega)
        have : ∃ w, z = .str w ∧ w ∈ words4 := by
          simp at w2
          rcases w2 with h | h | h
          · exact ⟨_, h, by decide⟩
          · exact ⟨_, h, by decide⟩
          · exact ⟨_, h, by decide⟩
        obtain ⟨w, rfl, hw⟩ := this
        refine ⟨t.take i ++ ⟨r.p, r.s, w⟩ :: t.drop (i + 1), ?_, put _ rfl ⟨R.dig, R.len, ?_⟩⟩
        · have a1 := ad2 (t.take i) [⟨r.p, r.s, w⟩] (by simp; omega)
          have a2 := ad2 (t.take i ++ [⟨r.p, r.s, w⟩]) (t.drop (i + 1)) (by simp; omega)
          have tE : ∀ l : List Rule, tabD l = .tup (l.map ruleD) := fun _ => rfl
          rw [List.append_assoc] at a2
          simp only [List.map_cons, List.map_nil] at a1
          have a1' : dAdd (.tup ((t.take i).map ruleD)) (.tup [.tup [.str r.p, .int r.s, .str w]]) = .ok (.tup ((t.take i ++ [(⟨r.p, r.s, w⟩ : Rule)]).map ruleD)) := a1
          simp only [seqS_eq, ifS_eq, andT_eq, tst_eq, op2_eq, vI_zero, vI_succ, cst_eq, bind_ok, dMod_ok (show (0 : Int) < 5 by decide), dEq_int, asB_bl, k2.1, beq_self_eq_true, if_true, dCmp_int, dGt, k2.2, decide_true, retS_eq, slcV_eq, tE, oNo_eq, oSome_eq, asI_int, dCut_tup, c1, c2, tupV_eq, aCons_eq, aNil_eq, dDiv_ok (show (0 : Int) < 64 ∧ (64 : Int) < 1073741824 by decide), dMod_ok (show (0 : Int) < 3 by decide), mkT_small (show [D.str [97], .str [98], .str [99, 100]].length ≤ 1000 by simp), dIx_tup, w1, optR_some, mkT_small (show [D.str r.p, .int r.s, .str w].length ≤ 1000 by simp), mkT_small (show [D.tup [.str r.p, .int r.s, .str w]].length ≤ 1000 by simp), a1', dAdd_int, a2, seqO_rt, finF_rt]
          rfl
        · rcases R.body with b | b
          · omega
          · exact .inr ⟨b.1, b.2.1, b.2.2.1, hw⟩
      · have c4 : (andT (tst (op2 dEq (op2 dMod (vI 1) (cst (.int 5))) (cst (.int 2)))) (tst (op2 dGt (vI 4) (cst (.int 0))))) [.d (tabD t), .d (.int n), .d (.int i), .d (.str r.p), .d (.int r.s), .d (.str r.w), .no] = .ok false := by
          by_cases z : n % 5 = 2
          · have z2 : ¬ 0 < r.s := fun q => k2 ⟨z, q⟩
            simp [dMod_ok, z, dGt, z2]
          · simp [dMod_ok, z]
        rw [seq_if_f c4, seqS_eq, skipS_eq, bind_ok, seqO_nx]
        by_cases k3 : n % 5 = 3 ∧ (if (r.p.length : Int) > 1 then (r.p.length : Int) else 1) ≤ n / 64 % 4
        · have c5 : (andT (tst (op2 dEq (op2 dMod (vI 1) (cst (.int 5))) (cst (.int 3)))) (tst (op2 dLe (calls dMax2 (aCons (cst (.int 1)) (aCons (calls dLen (aCons (vI 3) (aNil))) (aNil)))) (op2 dMod (op2 dDiv (vI 1) (cst (.int 64))) (cst (.int 4)))))) [.d (tabD t), .d (.int n), .d (.int i), .d (.str r.p), .d (.int r.s), .d (.str r.w), .no] = .ok true := by
            simp [dMod_ok, dDiv_ok, k3.1, dLe, k3.2]
          obtain ⟨w, ew, hw⟩ : ∃ w, (op2 dAdd (vI 5) (op2 dMulS (cst (.str [97])) (calls dInt1 (aCons (op2 dEq (vI 5) (cst (.str []))) (aNil))))) [.d (tabD t), .d (.int n), .d (.int i), .d (.str r.p), .d (.int r.s), .d (.str r.w), .no] = .ok (.str w) ∧ w ∈ words4 := by
            have e0 : dMulS (.str [97]) (.int 0) = .ok (.str []) := rfl
            have e1 : dMulS (.str [97]) (.int 1) = .ok (.str [97]) := rfl
            rcases R.body with b | b
            · refine ⟨[97], ?_, by decide⟩
              simp [b.2, e1]
              rfl
            · have ne : ¬ r.w = [] := fun e => by
                have := b.2.2.2
                rw [e] at this
                simp [words4] at this
              refine ⟨r.w, ?_, b.2.2.2⟩
              have ne' : (r.w == ([] : List Nat)) = false := by simpa using ne
              have wl : r.w.length ≤ 4 := by
                have := b.2.2.2
                simp [words4] at this
                rcases this with h | h | h | h <;> rw [h] <;> decide
              simp [ne', e0]
              rw [dAdd_str (by unfold line; simp; omega), List.append_nil]
          have szp : 1 ≤ n / 64 % 4 ∧ (r.p.length : Int) ≤ n / 64 % 4 := by
            have := k3.2
            split at this <;> omega
          refine ⟨t.take i ++ ⟨r.p, n / 64 % 4, w⟩ :: t.drop (i + 1), ?_, put _ rfl ⟨R.dig, R.len, .inr ⟨szp.1, by show n / 64 % 4 ≤ 12; omega, szp.2, hw⟩⟩⟩
          rw [seq_if_t c5]
          have set6 : (setS 6 (tupV (aCons (vI 3) (aCons (op2 dMod (op2 dDiv (vI 1) (cst (.int 64))) (cst (.int 4))) (aCons (op2 dAdd (vI 5) (op2 dMulS (cst (.str [97])) (calls dInt1 (aCons (op2 dEq (vI 5) (cst (.str []))) (aNil))))) (aNil)))))) [.d (tabD t), .d (.int n), .d (.int i), .d (.str r.p), .d (.int r.s), .d (.str r.w), .no] = .ok (.nx [.d (tabD t), .d (.int n), .d (.int i), .d (.str r.p), .d (.int r.s), .d (.str r.w), .d (ruleD ⟨r.p, n / 64 % 4, w⟩)]) := by
            rw [setS_eq, tupV_eq, aCons_eq, aCons_eq, aCons_eq, ew]
            simp [dDiv_ok, dMod_ok, ruleD]
          rw [← seqS_assoc, seqS_eq, set6, bind_ok, seqO_nx, seqS_eq]
          have a1 := ad2 (t.take i) [⟨r.p, n / 64 % 4, w⟩] (by simp; omega)
          have a2 := ad2 (t.take i ++ [⟨r.p, n / 64 % 4, w⟩]) (t.drop (i + 1)) (by simp; omega)
          have tE : ∀ l : List Rule, tabD l = .tup (l.map ruleD) := fun _ => rfl
          rw [List.append_assoc] at a2
          simp only [List.map_cons, List.map_nil] at a1
          simp only [op2_eq, vI_zero, vI_succ, cst_eq, bind_ok, retS_eq, slcV_eq, tE, oNo_eq, oSome_eq, asI_int, dCut_tup, c1, c2, tupV_eq, aCons_eq, aNil_eq, mkT_small (show [ruleD ⟨r.p, n / 64 % 4, w⟩].length ≤ 1000 by simp), a1, dAdd_int, a2, seqO_rt, finF_rt]
          rfl
        · have c5 : (andT (tst (op2 dEq (op2 dMod (vI 1) (cst (.int 5))) (cst (.int 3)))) (tst (op2 dLe (calls dMax2 (aCons (cst (.int 1)) (aCons (calls dLen (aCons (vI 3) (aNil))) (aNil)))) (op2 dMod (op2 dDiv (vI 1) (cst (.int 64))) (cst (.int 4)))))) [.d (tabD t), .d (.int n), .d (.int i), .d (.str r.p), .d (.int r.s), .d (.str r.w), .no] = .ok false := by
            by_cases z : n % 5 = 3
            · have z2 : ¬ (if (r.p.length : Int) > 1 then (r.p.length : Int) else 1) ≤ n / 64 % 4 := fun q => k3 ⟨z, q⟩
              simp [dMod_ok, dDiv_ok, z, dLe, z2]
            · simp [dMod_ok, z]
          refine ⟨t, ?_, T⟩
          rw [seq_if_f c5, seqS_eq, skipS_eq, bind_ok, seqO_nx]
          simp
end DD

namespace DD
open PySem PySem.Spec PyProof.Rows L2

/-! ### tables laid over one another -/
def has (b : List Rule) (p : List Nat) : Bool := b.any fun q => q.p == p
theorem has_iff {b : List Rule} {p : List Nat} : has b p = true ↔ ∃ q ∈ b, q.p = p := by
  unfold has
  rw [List.any_eq_true]
  simp
def over (a b : List Rule) : List Rule := sortT (b ++ a.filter fun r => !has b r.p)
theorem over_mem {a b : List Rule} {r : Rule} : r ∈ over a b ↔ r ∈ b ∨ (r ∈ a ∧ has b r.p = false) := by
  unfold over
  rw [(sortT_perm _).mem_iff, List.mem_append, List.mem_filter]
  simp
theorem over_sorted {a b : List Rule} (ha : PSort a) (hb : PSort b) : PSort (over a b) := by
  refine sortT_sorted ?_
  rw [List.map_append, List.nodup_append]
  refine ⟨psort_nodup hb, psort_nodup (ha.filter _), fun p hp q hq e => ?_⟩
  obtain ⟨x, hx, rfl⟩ := List.mem_map.mp hp
  obtain ⟨y, hy, rfl⟩ := List.mem_map.mp hq
  have := (List.mem_filter.mp hy).2
  rw [has_iff.mpr ⟨x, hx, e⟩] at this
  cases this
theorem over_len (a b : List Rule) : (over a b).length ≤ a.length + b.length := by
  unfold over
  rw [(sortT_perm _).length_eq, List.length_append]
  have := List.length_filter_le (fun r => !has b r.p) a
  omega
theorem psort_ext {a b : List Rule} (ha : PSort a) (hb : PSort b) (h : ∀ r, r ∈ a ↔ r ∈ b) : a = b := by
  have nd : ∀ {l : List Rule}, PSort l → l.Nodup := fun h => h.imp fun {x y} h e => by rw [e] at h; exact List.lt_irrefl _ h
  exact psort_unique ((List.perm_ext_iff_of_nodup (nd ha) (nd hb)).mpr h) ha hb
theorem has_over {a b : List Rule} {p : List Nat} : has (over a b) p = (has b p || has a p) := by
  cases e : has b p with
  | true =>
    obtain ⟨q, hq, e2⟩ := has_iff.mp e
    rw [Bool.true_or]
    exact has_iff.mpr ⟨q, over_mem.mpr (.inl hq), e2⟩
  | false =>
    rw [Bool.false_or]
    cases e1 : has a p with
    | true =>
      obtain ⟨q, hq, e2⟩ := has_iff.mp e1
      exact has_iff.mpr ⟨q, over_mem.mpr (.inr ⟨hq, by rw [e2]; exact e⟩), e2⟩
    | false =>
      cases e3 : has (over a b) p with
      | false => rfl
      | true =>
        obtain ⟨q, hq, e2⟩ := has_iff.mp e3
        rcases over_mem.mp hq with h | h
        · rw [has_iff.mpr ⟨q, h, e2⟩] at e
          cases e
        · rw [has_iff.mpr ⟨q, h.1, e2⟩] at e1
          cases e1
theorem dNotIn_lst {x : D} {xs : List D} (h : x.flat = true) (h2 : D.flats xs = true) : dNotIn x (.lst xs) = .ok (.bl (!(xs.any fun z => D.eqv z x))) := by
  unfold dNotIn dInB
  simp only
  rw [if_pos ⟨h, h2⟩]
  rfl
theorem dIn_lst {x : D} {xs : List D} (h : x.flat = true) (h2 : D.flats xs = true) : dIn x (.lst xs) = .ok (.bl (xs.any fun z => D.eqv z x)) := by
  unfold dIn dInB
  simp only
  rw [if_pos ⟨h, h2⟩]
  rfl
theorem flats_strs (l : List (List Nat)) : D.flats (l.map .str) = true := by
  unfold D.flats
  rw [List.all_eq_true]
  intro x hx
  obtain ⟨z, _, rfl⟩ := List.mem_map.mp hx
  rfl
theorem overlaid_ok (a b : List Rule) (h : a.length + b.length ≤ 1000) : f_overlaid [tabD a, tabD b] = .ok (tabD (over a b)) := by
  have run : f_overlaid [tabD a, tabD b] = (p_overlaid [.d (tabD a), .d (tabD b), .no, .no]).bind finF := rfl
  rw [run]
  unfold p_overlaid
  have itT : ∀ l : List Rule, items (tabD l) = .ok (l.map ruleD) := fun _ => rfl
  simp only [seqS_eq, setS_eq, compV_eq, itVn_eq, vI_zero, vI_succ, noEr_ok', bind_ok, itT]
  rw [compF_map (fun d => match d with | .tup [p, _, _] => p | d => d)]
  · have e : (b.map ruleD).map (fun d => match d with | .tup [p, _, _] => p | d => d) = (b.map (·.p)).map D.str := by
      rw [List.map_map, List.map_map]
      rfl
    rw [e]
    simp only [bind_ok, List.set_cons_succ, List.set_cons_zero, seqO_nx, retS_eq, calls_eq, aCons_eq, aNil_eq, op2_eq, vI_zero, vI_succ, compV_eq, itVn_eq, noEr_ok', itT]
    rw [compF_all (fun d => match d with | .tup [.str p, _, _] => !has b p | _ => false) id]
    · rw [filter_map', List.map_id]
      have e2 : (fun x : Rule => match ruleD x with | .tup [.str p, _, _] => !has b p | _ => false) = fun r => !has b r.p := rfl
      rw [e2]
      have ad : dAdd (tabD b) (.tup ((a.filter fun r => !has b r.p).map ruleD)) = .ok (tabD (b ++ a.filter fun r => !has b r.p)) := by
        have := List.length_filter_le (fun r => !has b r.p) a
        unfold tabD
        rw [dAdd_tup (by rw [List.length_map, List.length_map]; unfold line; omega), ← List.map_append]
      simp only [bind_ok, dTuple_lst, ad, sorted_tab, finF_rt]
      rfl
    · intro x hx
      obtain ⟨r, _, rfl⟩ := List.mem_map.mp hx
      have hh : (((b.map (·.p)).map D.str).any fun z => D.eqv z (.str r.p)) = has b r.p := by
        unfold has
        rw [List.any_map, List.any_map]
        rfl
      have ni := dNotIn_lst (x := .str r.p) (xs := (b.map (·.p)).map D.str) rfl (flats_strs _)
      rw [hh] at ni
      simp only [tst_eq, op2_eq, wipeE, List.set_cons_succ, List.set_cons_zero, vI_zero, vI_succ, bind_ok, cst_eq]
      simp only [ruleD, dIx_tup, atI_0, optR_some, bind_ok, ni, asB_bl]
    · intro x hx _
      obtain ⟨r, _, rfl⟩ := List.mem_map.mp hx
      simp [wipeE]
  · intro x hx
    obtain ⟨r, _, rfl⟩ := List.mem_map.mp hx
    simp [ruleD, wipeE]

/-! ### figures ahead -/
def shift (f : List Nat) (r : Rule) : Rule := ⟨f ++ r.p, if 0 < r.s then r.s + f.length else r.s, r.w⟩
def ahead (f : List Nat) (t : List Rule) : List Rule := t.map (shift f)
theorem behind_loop (td : D) (f : List Nat) (hf : f.length ≤ 100) : ∀ (t acc : List Rule) (a b c : Slot), (∀ r ∈ t, r.p.length ≤ 100) → acc.length + t.length ≤ 1000 →
    ∃ a' b' c', forF (toN [3, 4, 5]) b_behind_1 (t.map ruleD) [.d td, .d (.str f), .d (tabD acc), a, b, c] = .ok (.nx [.d td, .d (.str f), .d (tabD (acc ++ ahead f t)), a', b', c'])
  | [], acc, a, b, c, _, _ => ⟨a, b, c, by rw [show acc ++ ahead f [] = acc from List.append_nil acc]; rfl⟩
  | r :: t, acc, a, b, c, hp, hl => by
    have hl' : acc.length + (t.length + 1) ≤ 1000 := hl
    obtain ⟨a', b', c', e⟩ := behind_loop td f hf t (acc ++ [shift f r]) (.d (.str r.p)) (.d (.int (if 0 < r.s then r.s + f.length else r.s))) (.d (.str r.w)) (fun q hq => hp q (List.mem_cons_of_mem _ hq)) (by rw [List.length_append, List.length_singleton]; omega)
    have hr := hp r List.mem_cons_self
    refine ⟨a', b', c', ?_⟩
    have ap : acc ++ ahead f (r :: t) = acc ++ [shift f r] ++ ahead f t := by simp [ahead]
    rw [ap, List.map_cons, forF_step (ρ1 := [.d td, .d (.str f), .d (tabD acc), .d (.str r.p), .d (.int r.s), .d (.str r.w)]) (ρ2 := [.d td, .d (.str f), .d (tabD (acc ++ [shift f r])), .d (.str r.p), .d (.int (if 0 < r.s then r.s + f.length else r.s)), .d (.str r.w)]) rfl (.inl ?_), e]
    unfold b_behind_1
    have ad1 : dAdd (.str f) (.str r.p) = .ok (.str (f ++ r.p)) := dAdd_str (by unfold line; omega)
    have ad2 : dAdd (tabD acc) (.tup [ruleD (shift f r)]) = .ok (tabD (acc ++ [shift f r])) := by
      unfold tabD
      rw [dAdd_tup (by rw [List.length_map]; unfold line; simp; omega), List.map_append]
      rfl
    unfold ruleD shift at ad2
    by_cases z : 0 < r.s
    · rw [if_pos z] at ad2 ⊢
      simp [z, ad1, ad2, dGt, shift]
    · rw [if_neg z] at ad2 ⊢
      simp [z, ad1, ad2, dGt, shift]
theorem behind_ok (t : List Rule) (f : List Nat) (hf : f.length ≤ 100) (hp : ∀ r ∈ t, r.p.length ≤ 100) (hl : t.length ≤ 1000) : f_behind [tabD t, .str f] = .ok (tabD (ahead f t)) := by
  have run : f_behind [tabD t, .str f] = (p_behind [.d (tabD t), .d (.str f), .no, .no, .no, .no]).bind finF := rfl
  obtain ⟨a, b, c, e⟩ := behind_loop (tabD t) f hf t [] .no .no .no hp (by simpa using hl)
  have itT : ∀ l : List Rule, items (tabD l) = .ok (l.map ruleD) := fun _ => rfl
  have e : forF (toN [3, 4, 5]) b_behind_1 (t.map ruleD) [.d (tabD t), .d (.str f), .d (.tup []), .no, .no, .no] = _ := e
  rw [run]
  unfold p_behind
  simp [itT, e]
theorem app_lt {f a b : List Nat} : f ++ a < f ++ b ↔ a < b := by
  induction f with
  | nil => exact Iff.rfl
  | cons x f ih =>
    rw [List.cons_append, List.cons_append, List.cons_lt_cons_iff]
    simp [ih]
theorem ahead_sorted {f : List Nat} {t : List Rule} (h : PSort t) : PSort (ahead f t) := List.pairwise_map.mpr (h.imp fun {a b} h => app_lt.mpr h)
theorem shift_inj {f : List Nat} {a b : Rule} (h : (shift f a).p = (shift f b).p) : a.p = b.p := List.append_cancel_left h
theorem ahead_ahead {f g : List Nat} {t : List Rule} : ahead g (ahead f t) = ahead (g ++ f) t := by
  unfold ahead
  rw [List.map_map]
  refine List.map_congr_left fun r _ => ?_
  show shift g (shift f r) = shift (g ++ f) r
  unfold shift
  simp only [List.append_assoc, List.length_append, Rule.mk.injEq, true_and, and_true]
  by_cases z : 0 < r.s
  · rw [if_pos z, if_pos z, if_pos (by omega)]
    omega
  · rw [if_neg z, if_neg z, if_neg z]
theorem ahead_nil {t : List Rule} : ahead [] t = t := by
  unfold ahead
  conv => rhs; rw [← List.map_id t]
  refine List.map_congr_left fun r _ => ?_
  show (⟨[] ++ r.p, if 0 < r.s then r.s + (0 : Nat) else r.s, r.w⟩ : Rule) = r
  rw [List.nil_append]
  cases r
  simp
theorem ahead_has {f : List Nat} {t : List Rule} {p : List Nat} : has (ahead f t) (f ++ p) = has t p := by
  unfold has ahead
  rw [List.any_map]
  congr 1
  funext q
  show ((f ++ q.p) == (f ++ p)) = (q.p == p)
  by_cases h : q.p = p
  · rw [h, beq_self_eq_true, beq_self_eq_true]
  · have : f ++ q.p ≠ f ++ p := fun e => h (List.append_cancel_left e)
    rw [beq_eq_false_iff_ne.mpr this, beq_eq_false_iff_ne.mpr h]
theorem ahead_over {f : List Nat} {a b : List Rule} (ha : PSort a) (hb : PSort b) : ahead f (over a b) = over (ahead f a) (ahead f b) := by
  refine psort_ext (ahead_sorted (over_sorted ha hb)) (over_sorted (ahead_sorted ha) (ahead_sorted hb)) fun r => ?_
  rw [over_mem]
  unfold ahead
  rw [List.mem_map]
  constructor
  · rintro ⟨q, hq, rfl⟩
    rcases over_mem.mp hq with h | h
    · exact .inl (List.mem_map.mpr ⟨q, h, rfl⟩)
    · exact .inr ⟨List.mem_map.mpr ⟨q, h.1, rfl⟩, by show has (ahead f b) (f ++ q.p) = false; rw [ahead_has]; exact h.2⟩
  · rintro (h | ⟨h, h2⟩)
    · obtain ⟨q, hq, rfl⟩ := List.mem_map.mp h
      exact ⟨q, over_mem.mpr (.inl hq), rfl⟩
    · obtain ⟨q, hq, rfl⟩ := List.mem_map.mp h
      have h2 : has (ahead f b) (f ++ q.p) = false := h2
      rw [ahead_has] at h2
      exact ⟨q, over_mem.mpr (.inr ⟨hq, h2⟩), rfl⟩
theorem wordsL_ahead {f : List Nat} {t : List Rule} : wordsL (ahead f t) = wordsL t := by
  refine words_eq fun z => ?_
  have a1 : ∀ u : List Rule, z ∈ (u.filter fun q => decide (0 < q.s)).map (·.w) ↔ ∃ q ∈ u, 0 < q.s ∧ q.w = z := fun u => by
    have := wordsL_mem u z
    unfold wordsL at this
    rw [(sortL_perm _).mem_iff, dedL_mem] at this
    exact this
  rw [a1, a1]
  unfold ahead
  constructor
  · rintro ⟨q, hq, h1, h2⟩
    obtain ⟨r, hr, rfl⟩ := List.mem_map.mp hq
    refine ⟨r, hr, ?_, h2⟩
    have h1 : 0 < (if 0 < r.s then r.s + f.length else r.s) := h1
    split at h1
    · assumption
    · exact h1
  · rintro ⟨r, hr, h1, h2⟩
    refine ⟨shift f r, List.mem_map.mpr ⟨r, hr, rfl⟩, ?_, h2⟩
    show 0 < (if 0 < r.s then r.s + f.length else r.s)
    rw [if_pos h1]
    omega
theorem dNe_tab {a b : List Rule} (h : a = b) : dNe (tabD a) (tabD b) = .ok (.bl false) := by
  subst h
  exact dNe_same (plain_tab a 58) (eqv_refl _ 60 (plain_tab a 58))
end DD

namespace DD
open PySem PySem.Spec PyProof.Rows L2

/-! ### powers, texts in order -/
theorem power_loop (n : D) : ∀ (ks : List Int) (m : Nat) (x : Slot), m + ks.length ≤ 18 →
    ∃ x', forF (to1 2) b_power_1 (ks.map D.int) [.d n, .d (.int (10 ^ m)), x] = .ok (.nx [.d n, .d (.int (10 ^ (m + ks.length))), x'])
  | [], m, x, _ => ⟨x, rfl⟩
  | k :: ks, m, x, hl => by
    have hl : m + (ks.length + 1) ≤ 18 := hl
    obtain ⟨x', e⟩ := power_loop n ks (m + 1) (.d (.int k)) (by omega)
    refine ⟨x', ?_⟩
    have mul : dMul (.int 10) (.int (10 ^ m)) = .ok (.int (10 ^ (m + 1))) := by
      rw [dMul_ok (.inl (by decide)), Int.pow_succ, Int.mul_comm]
    rw [List.map_cons, forF_step (ρ2 := [.d n, .d (.int (10 ^ (m + 1))), .d (.int k)]) rfl (.inl ?_), e, List.length_cons, show m + 1 + ks.length = m + (ks.length + 1) by omega]
    unfold b_power_1
    simp only [setS_eq, op2_eq, cst_eq, vI_zero, vI_succ, bind_ok, mul, List.set_cons_succ, List.set_cons_zero]
theorem power_ok (k : Nat) (h : k ≤ 18) : f_power [.int k] = .ok (.int (10 ^ k)) := by
  obtain ⟨x, e⟩ := power_loop (.int k) ((List.range k).map fun i => 0 + (i : Nat)) 0 .no (by simpa using h)
  have run : f_power [.int k] = (p_power [.d (.int k), .no, .no]).bind finF := rfl
  rw [run]
  unfold p_power
  simp only [seqS_eq, setS_eq, cst_eq, bind_ok, List.set_cons_succ, List.set_cons_zero, seqO_nx, forS_eq, itR_eq, aCons_eq, aNil_eq, vI_zero]
  rw [dRng1_ok (by unfold line; omega), bind_ok, rngL_eq]
  have e : forF (to1 2) b_power_1 (List.map D.int (List.map (fun (i : Nat) => 0 + (i : Int)) (List.range k))) [.d (.int k), .d (.int 1), .no] = _ := e
  rw [e]
  simp
theorem str_le (a b : List Nat) : PySem.W.dataLe false toPy (.str a) (.str b) = !decide (b < a) := by
  show (!PySem.W.dataLt (.str ⟨b.toArray⟩) (.str ⟨a.toArray⟩)) = _
  rw [PySem.W.dataLt_str]
theorem sortD_strs (l : List (List Nat)) : sortD (l.map .str) = (sortL l).map .str := by
  have e : sortD (l.map .str) = (l.mergeSort fun a b => PySem.W.dataLe false toPy (.str a) (.str b)).map .str := by
    unfold sortD
    exact (List.map_mergeSort (f := D.str) (r := fun a b => PySem.W.dataLe false toPy (.str a) (.str b)) (s := PySem.W.dataLe false toPy) fun a _ b _ => rfl).symm
  rw [e]
  have pw : (l.mergeSort fun a b => PySem.W.dataLe false toPy (.str a) (.str b)).Pairwise fun a b => PySem.W.dataLe false toPy (.str a) (.str b) = true := List.pairwise_mergeSort (le := fun a b : List Nat => PySem.W.dataLe false toPy (.str a) (.str b)) (fun a b c h1 h2 => dataLe_trans _ _ _ h1 h2) (fun a b => dataLe_total _ _) l
  congr 1
  refine sortL_of (List.mergeSort_perm _ _) (pw.imp fun {a b} h => ?_)
  rw [str_le] at h
  simpa using h
theorem sort_ok_strs (l : List (List Nat)) : SortOk (l.map .str) := by
  refine ⟨plain_strs l 8, fun x hx y hy => ?_, .inr fun x hx => ?_⟩
  · obtain ⟨r, _, rfl⟩ := List.mem_map.mp hx
    obtain ⟨q, _, rfl⟩ := List.mem_map.mp hy
    rfl
  · obtain ⟨r, _, rfl⟩ := List.mem_map.mp hx
    rfl
theorem sorted_strs (l : List (List Nat)) : dSortedG [.lst (l.map .str)] = .ok (.lst ((sortL l).map .str)) := by
  show (if SortOk (l.map .str) then _ else _) = _
  rw [if_pos (sort_ok_strs l), sortD_strs]

/-! ### the shortest longer prefixes -/
def pre (a b : List Nat) : Bool := a.isPrefixOf b
theorem pre_iff {a b : List Nat} : pre a b = true ↔ a <+: b := List.isPrefixOf_iff_prefix
def addTop (found : List (List Nat)) (o : List Nat) : List (List Nat) := if (found.any fun q => pre q o) = true then found else found ++ [o]
def below (t : List Rule) (p : List Nat) : List (List Nat) := ((t.filter fun r => pre p r.p && !(r.p == p)).map (·.p))
def tops (t : List Rule) (p : List Nat) : List (List Nat) := (sortL (below t p)).foldl addTop []
theorem appS_run {i : Nat} {a : Env → R D} {ρ : Env} {xs : List D} {d : D} (h1 : ρ[i]? = some (.L xs)) (h2 : a ρ = .ok d) (h3 : xs.length < line) : appS i a ρ = .ok (.nx (ρ.set i (.L (xs ++ [d])))) := by
  unfold appS
  rw [h1]
  simp only
  rw [h2, bind_ok, if_pos h3]
theorem tops_loop (td pd : D) : ∀ (os found : List (List Nat)) (x : Slot), found.length + os.length ≤ 1000 →
    ∃ x', forF (to1 3) b_tops_below_1 (os.map D.str) [.d td, .d pd, .L (found.map .str), x, .no, .no] = .ok (.nx [.d td, .d pd, .L ((os.foldl addTop found).map .str), x', .no, .no])
  | [], found, x, _ => ⟨x, rfl⟩
  | o :: os, found, x, hl => by
    have hl : found.length + (os.length + 1) ≤ 1000 := hl
    have al : (addTop found o).length ≤ found.length + 1 := by
      unfold addTop
      split
      · omega
      · simp
    obtain ⟨x', e⟩ := tops_loop td pd os (addTop found o) (.d (.str o)) (by omega)
    refine ⟨x', ?_⟩
    rw [List.map_cons, List.foldl_cons, forF_step (ρ2 := [.d td, .d pd, .L ((addTop found o).map .str), .d (.str o), .no, .no]) rfl (.inl ?_), e]
    unfold b_tops_below_1
    have fz : frzE 2 [Slot.d td, .d pd, .L (found.map .str), .d (.str o), .no, .no] = [.d td, .d pd, .d (.lst (found.map .str)), .d (.str o), .no, .no] := rfl
    have comp : compF (to1 5) yesT (methS dStarts (vI 3) (aCons (vI 5) aNil)) [5] [Slot.d td, .d pd, .d (.lst (found.map .str)), .d (.str o), .no, .no] (found.map .str) = .ok ((found.map fun q => pre q o).map D.bl) := by
      rw [compF_map (fun d => match d with | .str q => .bl (pre q o) | d => d)]
      · rw [List.map_map, List.map_map]
        rfl
      · intro d hd
        obtain ⟨q, _, rfl⟩ := List.mem_map.mp hd
        simp [wipeE, pre]
    have any : dAny [.lst ((found.map fun q => pre q o).map D.bl)] = .ok (.bl (found.any fun q => pre q o)) := by
      show (match truths ((found.map fun q => pre q o).map D.bl) with | some bs => R.ok (D.bl (bs.any id)) | none => .un) = _
      rw [truths_map]
      show R.ok (D.bl ((found.map fun q => pre q o).any id)) = _
      rw [List.any_map]
      rfl
    have test : (tmpT 2 (notT (tst (calls dAny (aCons (compV (itVn (vI 2)) (to1 5) (yesT) (methS dStarts (vI 3) (aCons (vI 5) (aNil))) [5]) (aNil)))))) [Slot.d td, .d pd, .L (found.map .str), .d (.str o), .no, .no] = .ok (!(found.any fun q => pre q o)) := by
      rw [tmpT_eq, fz]
      simp only [notT_eq, tst_eq, calls_eq, aCons_eq, aNil_eq, compV_eq, itVn_eq, vI_zero, vI_succ, noEr_ok', bind_ok, items_lst, comp, any, asB_bl]
    simp only [List.set_cons_succ, List.set_cons_zero]
    rw [ifS_eq, test, bind_ok]
    unfold addTop
    by_cases h : (found.any fun q => pre q o) = true
    · rw [h]
      simp
    · rw [if_neg h]
      rw [Bool.not_eq_true] at h
      rw [h]
      rw [Bool.not_false, if_pos rfl, appS_run (xs := found.map .str) (d := .str o) rfl rfl (by rw [List.length_map]; unfold line; omega)]
      simp
theorem below_len (t : List Rule) (p : List Nat) : (below t p).length ≤ t.length := by
  unfold below
  rw [List.length_map]
  exact List.length_filter_le _ _
theorem tops_ok (t : List Rule) (p : List Nat) (h : t.length ≤ 1000) : f_tops_below [tabD t, .str p] = .ok (.lst ((tops t p).map .str)) := by
  have run : f_tops_below [tabD t, .str p] = (p_tops_below [.d (tabD t), .d (.str p), .no, .no, .no, .no]).bind finF := rfl
  obtain ⟨x, e⟩ := tops_loop (tabD t) (.str p) (sortL (below t p)) [] .no (by rw [(sortL_perm _).length_eq]; have := below_len t p; simp; omega)
  have itT : ∀ l : List Rule, items (tabD l) = .ok (l.map ruleD) := fun _ => rfl
  have comp : compF (to1 4) (andT (tst (methS dStarts (op2 dIx (vI 4) (cst (.int 0))) (aCons (vI 1) aNil))) (tst (op2 dNe (op2 dIx (vI 4) (cst (.int 0))) (vI 1)))) (op2 dIx (vI 4) (cst (.int 0))) [4] [.d (tabD t), .d (.str p), .L [], .no, .no, .no] (t.map ruleD) = .ok ((below t p).map .str) := by
    rw [compF_all (fun d => match d with | .tup [.str q, _, _] => pre p q && !(q == p) | _ => false) (fun d => match d with | .tup [q, _, _] => q | d => d)]
    · rw [filter_map', List.map_map]
      unfold below
      rw [List.map_map]
      rfl
    · intro x hx
      obtain ⟨r, _, rfl⟩ := List.mem_map.mp hx
      cases h : p.isPrefixOf r.p with
      | true => simp [ruleD, wipeE, pre, h]
      | false => simp [ruleD, wipeE, pre, h]
    · intro x hx _
      obtain ⟨r, _, rfl⟩ := List.mem_map.mp hx
      simp [ruleD, wipeE]
  have e : forF (to1 3) b_tops_below_1 ((sortL (below t p)).map D.str) [.d (tabD t), .d (.str p), .L [], .no, .no, .no] = _ := e
  have nl : (newLS 2 aNil) [.d (tabD t), .d (.str p), .no, .no, .no, .no] = .ok (.nx [.d (tabD t), .d (.str p), .L [], .no, .no, .no]) := rfl
  rw [run]
  unfold p_tops_below
  rw [seqS_eq, nl, bind_ok, seqO_nx]
  simp only [seqS_eq, forS_eq, itVn_eq, calls_eq, aCons_eq, aNil_eq, compV_eq, vI_zero, noEr_ok', bind_ok, itT, comp, sorted_strs, items_lst, e, seqO_nx]
  rfl

/-! ### how many numbers have a rule -/
def inc (base : List Nat) (size : Int) (found : Int) (o : List Nat) : Int := if pre base o = true ∧ (o.length : Int) ≤ size then found - 10 ^ (size - o.length).toNat else found
theorem count_step (td pd bd : D) (base : List Nat) (n : Nat) (hn : n ≤ 18) (found : Int) (o : List Nat) (h : pre o base = false) :
    b_count_of_1 [.d td, .d pd, .d (.int n), .d bd, .d (.str base), .d (.int found), .d (.str o)] = .ok (.nx [.d td, .d pd, .d (.int n), .d bd, .d (.str base), .d (.int (inc base n found o)), .d (.str o)]) := by
  have ho : o.isPrefixOf base = false := h
  unfold b_count_of_1
  by_cases z : pre base o = true ∧ (o.length : Int) ≤ (n : Int)
  · obtain ⟨k, hk⟩ : ∃ k : Nat, (n : Int) - (o.length : Int) = k := ⟨n - o.length, by omega⟩
    have pw := power_ok k (by omega)
    have z1 : base.isPrefixOf o = true := z.1
    have z2 : o.length ≤ n := by omega
    unfold inc
    rw [if_pos z, hk, Int.toNat_natCast]
    simp [ho, z1, dLe, z2, hk, pw]
  · unfold inc
    rw [if_neg z]
    cases z1 : base.isPrefixOf o with
    | false => simp [ho, z1]
    | true =>
      have z2 : ¬ o.length ≤ n := fun q => z ⟨z1, by omega⟩
      simp [ho, z1, dLe, z2]
theorem count_loop (td pd bd : D) (base : List Nat) (n : Nat) (hn : n ≤ 18) : ∀ (os : List (List Nat)) (found : Int) (x : Slot), (∀ o ∈ os, pre o base = false) →
    ∃ x', forF (to1 6) b_count_of_1 (os.map D.str) [.d td, .d pd, .d (.int n), .d bd, .d (.str base), .d (.int found), x] = .ok (.nx [.d td, .d pd, .d (.int n), .d bd, .d (.str base), .d (.int (os.foldl (inc base n) found)), x'])
  | [], found, x, _ => ⟨x, rfl⟩
  | o :: os, found, x, h => by
    obtain ⟨x', e⟩ := count_loop td pd bd base n hn os (inc base n found o) (.d (.str o)) fun q hq => h q (List.mem_cons_of_mem _ hq)
    refine ⟨x', ?_⟩
    rw [List.map_cons, List.foldl_cons, forF_step (ρ2 := [.d td, .d pd, .d (.int n), .d bd, .d (.str base), .d (.int (inc base n found o)), .d (.str o)]) rfl (.inl (count_step td pd bd base n hn found o (h o List.mem_cons_self))), e]
theorem count_hit (td pd bd : D) (base : List Nat) (n : Nat) (hn : n ≤ 18) : ∀ (os : List (List Nat)) (found : Int) (x : Slot), (∃ o ∈ os, pre o base = true) →
    forF (to1 6) b_count_of_1 (os.map D.str) [.d td, .d pd, .d (.int n), .d bd, .d (.str base), .d (.int found), x] = .ok (.rt (.int 0))
  | [], found, x, h => by
    obtain ⟨_, h, _⟩ := h
    cases h
  | o :: os, found, x, h => by
    cases ho : pre o base with
    | true =>
      have ho' : o.isPrefixOf base = true := ho
      have b : b_count_of_1 [.d td, .d pd, .d (.int n), .d bd, .d (.str base), .d (.int found), .d (.str o)] = .ok (.rt (.int 0)) := by
        unfold b_count_of_1
        simp [ho']
      rw [List.map_cons, forF_cons, to1_eq, bind_ok]
      simp only [List.set_cons_succ, List.set_cons_zero]
      rw [b, bind_ok, forO_rt]
    | false =>
      have h' : ∃ q ∈ os, pre q base = true := by
        obtain ⟨q, hq, e⟩ := h
        rcases List.mem_cons.mp hq with z | z
        · rw [z, ho] at e
          cases e
        · exact ⟨q, z, e⟩
      rw [List.map_cons, forF_step (ρ2 := [.d td, .d pd, .d (.int n), .d bd, .d (.str base), .d (.int (inc base n found o)), .d (.str o)]) rfl (.inl (count_step td pd bd base n hn found o ho)), count_hit td pd bd base n hn os _ _ h']
/-- what count_of gives -/
def cnt (t : List Rule) (p : List Nat) (n : Nat) (b : List Nat) : Int :=
  if pre b p = false ∧ pre p b = false then 0 else
  let base := if p.length < b.length then b else p
  if n < base.length then 0 else if (tops t p).any (fun o => pre o base) = true then 0 else (tops t p).foldl (inc base n) (10 ^ (n - base.length))
theorem count_ok (t : List Rule) (p b : List Nat) (n : Nat) (hn : n ≤ 18) (h : t.length ≤ 1000) : f_count_of [tabD t, .str p, .int n, .str b] = .ok (.int (cnt t p n b)) := by
  have run : f_count_of [tabD t, .str p, .int n, .str b] = (p_count_of [.d (tabD t), .d (.str p), .d (.int n), .d (.str b), .no, .no, .no]).bind finF := rfl
  rw [run]
  unfold p_count_of cnt
  by_cases z : pre b p = false ∧ pre p b = false
  · have z1 : b.isPrefixOf p = false := z.1
    have z2 : p.isPrefixOf b = false := z.2
    rw [if_pos z]
    simp [z1, z2]
  · rw [if_neg z]
    have c : (andT (notT (tst (methS dStarts (vI 1) (aCons (vI 3) (aNil))))) (notT (tst (methS dStarts (vI 3) (aCons (vI 1) (aNil)))))) [.d (tabD t), .d (.str p), .d (.int n), .d (.str b), .no, .no, .no] = .ok false := by
      cases z1 : b.isPrefixOf p with
      | true => simp [z1]
      | false =>
        have z2 : p.isPrefixOf b = true := by
          cases z2 : p.isPrefixOf b with
          | true => rfl
          | false => exact absurd ⟨z1, z2⟩ z
        simp [z1, z2]
    rw [seq_if_f c, seqS_eq, skipS_eq, bind_ok, seqO_nx]
    generalize hb : (if p.length < b.length then b else p) = base
    have s4 : (seqS (setS 4 (vI 1)) (ifS (tst (op2 dGt (calls dLen (aCons (vI 3) (aNil))) (calls dLen (aCons (vI 1) (aNil))))) (setS 4 (vI 3)) (skipS))) [.d (tabD t), .d (.str p), .d (.int n), .d (.str b), .no, .no, .no] = .ok (.nx [.d (tabD t), .d (.str p), .d (.int n), .d (.str b), .d (.str base), .no, .no]) := by
      by_cases q : p.length < b.length
      · rw [if_pos q] at hb
        subst hb
        simp [dGt, q]
      · rw [if_neg q] at hb
        subst hb
        simp [dGt, q]
    rw [seqS_assoc, seqS_eq, s4, bind_ok, seqO_nx]
    by_cases q : n < base.length
    · rw [if_pos q]
      simp [dGt, q]
    · rw [if_neg q]
      have c2 : (tst (op2 dGt (calls dLen (aCons (vI 4) (aNil))) (vI 2))) [.d (tabD t), .d (.str p), .d (.int n), .d (.str b), .d (.str base), .no, .no] = .ok false := by
        simp [dGt, q]
      rw [seq_if_f c2, seqS_eq, skipS_eq, bind_ok, seqO_nx]
      have pw := power_ok (n - base.length) (by omega)
      have s5 : (setS 5 (callF 1 f_power (aCons (op2 dSub (vI 2) (calls dLen (aCons (vI 4) (aNil)))) (aNil)))) [.d (tabD t), .d (.str p), .d (.int n), .d (.str b), .d (.str base), .no, .no] = .ok (.nx [.d (tabD t), .d (.str p), .d (.int n), .d (.str b), .d (.str base), .d (.int (10 ^ (n - base.length))), .no]) := by
        have e : (n : Int) - (base.length : Int) = ((n - base.length : Nat) : Int) := by omega
        simp only [setS_eq, callF_eq, aCons_eq, aNil_eq, op2_eq, vI_zero, vI_succ, calls_eq, bind_ok, dLen_str, dSub_int, e, List.length_cons, List.length_nil, if_true, pw, List.set_cons_succ, List.set_cons_zero]
      rw [seqS_eq, s5, bind_ok, seqO_nx]
      simp only [seqS_eq, forS_eq, itVn_eq, callF_eq, aCons_eq, aNil_eq, vI_zero, vI_succ, bind_ok, List.length_cons, List.length_nil, if_true, tops_ok t p h, noEr_ok', items_lst]
      by_cases hit : (tops t p).any (fun o => pre o base) = true
      · rw [if_pos hit, count_hit _ _ _ base n hn _ _ _ (List.any_eq_true.mp hit)]
        rfl
      · rw [if_neg hit]
        obtain ⟨x', e⟩ := count_loop (tabD t) (.str p) (.str b) base n hn (tops t p) (10 ^ (n - base.length)) .no fun o ho => by
          cases z : pre o base with
          | false => rfl
          | true => exact absurd (List.any_eq_true.mpr ⟨o, ho, z⟩) hit
        rw [e]
        rfl
end DD

namespace DD
open PySem PySem.Spec PyProof.Rows L2

/-! ### how many texts of figures have none of some beginnings -/
def digs : List Nat := [48, 49, 50, 51, 52, 53, 54, 55, 56, 57]
theorem digs_iff {c : Nat} : c ∈ digs ↔ Dig c := by
  unfold digs
  simp only [List.mem_cons, List.not_mem_nil, or_false]
  omega
def C (T : List (List Nat)) : Nat → List Nat → Int
  | 0, base => if (T.any fun o => pre o base) = true then 0 else 1
  | k + 1, base => (digs.map fun d => C T k (base ++ [d])).sum
def wt (base : List Nat) (m : Nat) (t : List Nat) : Int := if pre base t = true ∧ t.length ≤ m then 10 ^ (m - t.length) else 0
def S (T : List (List Nat)) (base : List Nat) (m : Nat) : Int := (T.map (wt base m)).sum
theorem foldl_inc (base : List Nat) (n : Nat) : ∀ (os : List (List Nat)) (f : Int), os.foldl (inc base n) f = f - S os base n
  | [], f => by simp [S]
  | o :: os, f => by
    rw [List.foldl_cons, foldl_inc base n os]
    show _ = f - (wt base n o + S os base n)
    have e : inc base n f o = f - wt base n o := by
      unfold inc wt
      by_cases z : pre base o = true ∧ o.length ≤ n
      · rw [if_pos ⟨z.1, by omega⟩, if_pos z, show ((n : Int) - (o.length : Int)).toNat = n - o.length by omega]
      · rw [if_neg fun q => z ⟨q.1, by omega⟩, if_neg z, Int.sub_zero]
    rw [e]
    omega
theorem sum_map_add {α : Type} (f g : α → Int) : ∀ l : List α, (l.map fun x => f x + g x).sum = (l.map f).sum + (l.map g).sum
  | [] => rfl
  | x :: l => by
    simp only [List.map_cons, List.sum_cons, sum_map_add f g l]
    omega
theorem sum_map_zero {α : Type} (f : α → Int) : ∀ l : List α, (∀ x ∈ l, f x = 0) → (l.map f).sum = 0
  | [], _ => rfl
  | x :: l, h => by
    rw [List.map_cons, List.sum_cons, h x List.mem_cons_self, sum_map_zero f l fun y hy => h y (List.mem_cons_of_mem _ hy)]
    rfl
theorem sum_swap {α β : Type} (f : α → β → Int) (l : List α) : ∀ m : List β, (l.map fun a => (m.map (f a)).sum).sum = (m.map fun b => (l.map fun a => f a b).sum).sum
  | [] => by
    have : (l.map fun a => (([] : List β).map (f a)).sum) = l.map fun _ => (0 : Int) := rfl
    rw [this, sum_map_zero _ l fun _ _ => rfl]
    rfl
  | b :: m => by
    have ih := sum_swap f l m
    have e : (l.map fun a => ((b :: m).map (f a)).sum) = l.map fun a => f a b + (m.map (f a)).sum := rfl
    rw [e, sum_map_add, ih]
    rfl
theorem sum_digs (c : Nat) (hc : Dig c) (w : Int) : (digs.map fun d => if d = c then w else 0).sum = w := by
  have : c = 48 ∨ c = 49 ∨ c = 50 ∨ c = 51 ∨ c = 52 ∨ c = 53 ∨ c = 54 ∨ c = 55 ∨ c = 56 ∨ c = 57 := by omega
  rcases this with h | h | h | h | h | h | h | h | h | h <;> subst h <;> simp [digs]
theorem pre_app {a b c : List Nat} (h : pre a b = true) : pre a (b ++ c) = true := pre_iff.mpr ((pre_iff.mp h).trans (List.prefix_append _ _))
theorem pre_snoc {t base : List Nat} {d : Nat} (h : pre t (base ++ [d]) = true) (n : pre t base = false) : t = base ++ [d] := by
  have h := pre_iff.mp h
  rcases List.prefix_concat_iff.mp h with e | e
  · exact e
  · rw [pre_iff.mpr e] at n
    cases n
/-- beginnings of which none begins with another -/
structure Anti (T : List (List Nat)) : Prop where
  anti : ∀ a ∈ T, ∀ b ∈ T, a <+: b → a = b
  nd : T.Nodup
  dig : ∀ t ∈ T, Digs t
theorem sum_one (T : List (List Nat)) (nd : T.Nodup) (t0 : List Nat) (h : t0 ∈ T) (w : Int) : (T.map fun t => if t = t0 then w else 0).sum = w := by
  induction T with
  | nil => cases h
  | cons x T ih =>
    obtain ⟨n1, n2⟩ := List.nodup_cons.mp nd
    rw [List.map_cons, List.sum_cons]
    rcases List.mem_cons.mp h with e | e
    · subst e
      rw [if_pos rfl, sum_map_zero]
      · exact Int.add_zero _
      · intro y hy
        have ne : ¬ y = t0 := fun e => n1 (e ▸ hy)
        rw [if_neg ne]
    · have ne : ¬ x = t0 := fun z => n1 (z ▸ e)
      rw [if_neg ne, ih n2 e, Int.zero_add]
theorem wt_digs {T : List (List Nat)} (A : Anti T) {base t : List Nat} {m : Nat} (ht : t ∈ T) (h : pre t base = false) (hm : base.length < m) : (digs.map fun d => wt (base ++ [d]) m t).sum = wt base m t := by
  by_cases hp : pre base t = true
  · obtain ⟨r, hr⟩ := pre_iff.mp hp
    cases r with
    | nil =>
      rw [List.append_nil] at hr
      subst hr
      rw [pre_iff.mpr (List.prefix_refl _)] at h
      cases h
    | cons c r =>
      have hc : Dig c := A.dig t ht c (by rw [← hr]; simp)
      have e : (fun d => wt (base ++ [d]) m t) = fun d => if d = c then wt base m t else 0 := by
        funext d
        by_cases hd : d = c
        · subst hd
          rw [if_pos rfl]
          have p2 : pre (base ++ [d]) t = true := pre_iff.mpr ⟨r, by rw [← hr]; simp⟩
          unfold wt
          rw [hp, p2]
        · rw [if_neg hd]
          have p2 : ¬ pre (base ++ [d]) t = true := fun q => by
            obtain ⟨z, hz⟩ := pre_iff.mp q
            rw [← hr, List.append_assoc] at hz
            have := List.append_cancel_left hz
            simp at this
            exact hd this.1
          unfold wt
          rw [if_neg fun q => p2 q.1]
      rw [e, sum_digs c hc]
  · have e0 : wt base m t = 0 := by
      unfold wt
      rw [if_neg fun q => hp q.1]
    rw [e0]
    refine sum_map_zero _ _ fun d _ => ?_
    unfold wt
    rw [if_neg fun q => hp (pre_iff.mpr ((List.prefix_append _ _).trans (pre_iff.mp q.1)))]
theorem C_eq {T : List (List Nat)} (A : Anti T) : ∀ (k : Nat) (base : List Nat), ((T.any fun o => pre o base) = true → C T k base = 0) ∧ ((T.any fun o => pre o base) = false → C T k base = 10 ^ k - S T base (base.length + k))
  | 0, base => by
    refine ⟨fun h => by unfold C; rw [if_pos h], fun h => ?_⟩
    unfold C
    rw [if_neg (by rw [h]; exact Bool.false_ne_true)]
    have e : S T base (base.length + 0) = 0 := by
      refine sum_map_zero _ _ fun t ht => ?_
      unfold wt
      refine if_neg fun q => ?_
      obtain ⟨z, hz⟩ := pre_iff.mp q.1
      have hz0 : z = [] := by
        have := congrArg List.length hz
        rw [List.length_append] at this
        exact List.eq_nil_of_length_eq_zero (by have := q.2; omega)
      rw [hz0, List.append_nil] at hz
      have : (T.any fun o => pre o base) = true := List.any_eq_true.mpr ⟨t, ht, by rw [hz]; exact pre_iff.mpr (List.prefix_refl _)⟩
      rw [h] at this
      cases this
    rw [e]
    rfl
  | k + 1, base => by
    have hC : C T (k + 1) base = (digs.map fun d => C T k (base ++ [d])).sum := rfl
    refine ⟨fun h => ?_, fun h => ?_⟩
    · rw [hC]
      refine sum_map_zero _ _ fun d _ => (C_eq A k (base ++ [d])).1 ?_
      obtain ⟨o, ho, hp⟩ := List.any_eq_true.mp h
      exact List.any_eq_true.mpr ⟨o, ho, pre_app hp⟩
    · have none : ∀ t ∈ T, pre t base = false := fun t ht => by
        cases e : pre t base with
        | false => rfl
        | true =>
          rw [List.any_eq_true.mpr ⟨t, ht, e⟩] at h
          cases h
      have each : ∀ d, C T k (base ++ [d]) = 10 ^ k + (-S T (base ++ [d]) (base.length + (k + 1))) := fun d => by
        have ih := C_eq A k (base ++ [d])
        have hl : (base ++ [d]).length + k = base.length + (k + 1) := by rw [List.length_append, List.length_singleton]; omega
        rw [hl] at ih
        cases e : (T.any fun o => pre o (base ++ [d])) with
        | false =>
          rw [ih.2 e]
          omega
        | true =>
          rw [ih.1 e]
          obtain ⟨o, ho, hp⟩ := List.any_eq_true.mp e
          have eo := pre_snoc hp (none o ho)
          subst eo
          have e2 : T.map (wt (base ++ [d]) (base.length + (k + 1))) = T.map fun t => if t = base ++ [d] then (10 : Int) ^ k else 0 := by
            refine List.map_congr_left fun t ht => ?_
            unfold wt
            by_cases z : t = base ++ [d]
            · subst z
              rw [if_pos rfl, if_pos ⟨pre_iff.mpr (List.prefix_refl _), by omega⟩, show base.length + (k + 1) - (base ++ [d]).length = k by omega]
            · rw [if_neg z, if_neg fun q => z (A.anti _ ho _ ht (pre_iff.mp q.1)).symm]
          have e3 : S T (base ++ [d]) (base.length + (k + 1)) = 10 ^ k := by
            unfold S
            rw [e2, sum_one T A.nd _ ho]
          rw [e3]
          omega
      have e1 : (digs.map fun d => C T k (base ++ [d])) = digs.map fun d => 10 ^ k + (-S T (base ++ [d]) (base.length + (k + 1))) := List.map_congr_left fun d _ => each d
      have e2 : (digs.map fun d => S T (base ++ [d]) (base.length + (k + 1))).sum = S T base (base.length + (k + 1)) := by
        unfold S
        rw [sum_swap (fun d t => wt (base ++ [d]) (base.length + (k + 1)) t) digs T]
        congr 1
        exact List.map_congr_left fun t ht => wt_digs A ht (none t ht) (by omega)
      have e3 : (digs.map fun d => -S T (base ++ [d]) (base.length + (k + 1))).sum = -(digs.map fun d => S T (base ++ [d]) (base.length + (k + 1))).sum := by
        generalize digs = l
        induction l with
        | nil => rfl
        | cons x l ih =>
          simp only [List.map_cons, List.sum_cons, ih]
          omega
      have e4 : (digs.map fun _ => (10 : Int) ^ k).sum = 10 ^ (k + 1) := by
        simp only [digs, List.map_cons, List.map_nil, List.sum_cons, List.sum_nil, Int.pow_succ]
        omega
      rw [hC, e1, sum_map_add, e3, e2, e4]
      omega
theorem C_nn (T : List (List Nat)) : ∀ (k : Nat) (base : List Nat), 0 ≤ C T k base
  | 0, base => by
    unfold C
    split <;> omega
  | k + 1, base => by
    show 0 ≤ (digs.map fun d => C T k (base ++ [d])).sum
    have : ∀ l : List Nat, 0 ≤ (l.map fun d => C T k (base ++ [d])).sum := fun l => by
      induction l with
      | nil => exact Int.le_refl _
      | cons x l ih =>
        have := C_nn T k (base ++ [x])
        simp only [List.map_cons, List.sum_cons]
        omega
    exact this _
theorem C_pos {T : List (List Nat)} : ∀ (k : Nat) (base : List Nat), 0 < C T k base ↔ ∃ u, Digs u ∧ u.length = k ∧ ∀ o ∈ T, ¬ o <+: base ++ u
  | 0, base => by
    unfold C
    constructor
    · intro h
      refine ⟨[], (fun _ h => by cases h), rfl, fun o ho hp => ?_⟩
      rw [List.append_nil] at hp
      have hit : (T.any fun o => pre o base) = true := List.any_eq_true.mpr ⟨o, ho, pre_iff.mpr hp⟩
      rw [if_pos hit] at h
      omega
    · rintro ⟨u, _, hu, h⟩
      have : u = [] := List.eq_nil_of_length_eq_zero hu
      subst this
      rw [List.append_nil] at h
      rw [if_neg fun q => by
        obtain ⟨o, ho, hp⟩ := List.any_eq_true.mp q
        exact h o ho (pre_iff.mp hp)]
      omega
  | k + 1, base => by
    have hs : 0 < C T (k + 1) base ↔ ∃ d ∈ digs, 0 < C T k (base ++ [d]) := by
      show 0 < (digs.map fun d => C T k (base ++ [d])).sum ↔ _
      generalize digs = l
      induction l with
      | nil => simp
      | cons x l ih =>
        have n1 := C_nn T k (base ++ [x])
        have n2 : 0 ≤ (l.map fun d => C T k (base ++ [d])).sum := by
          clear ih
          induction l with
          | nil => exact Int.le_refl _
          | cons y l ih =>
            have := C_nn T k (base ++ [y])
            simp only [List.map_cons, List.sum_cons]
            omega
        rw [List.map_cons, List.sum_cons]
        constructor
        · intro h
          by_cases z : 0 < C T k (base ++ [x])
          · exact ⟨x, List.mem_cons_self, z⟩
          · obtain ⟨d, hd, h2⟩ := ih.mp (by omega)
            exact ⟨d, List.mem_cons_of_mem _ hd, h2⟩
        · rintro ⟨d, hd, h2⟩
          rcases List.mem_cons.mp hd with e | e
          · subst e
            omega
          · have := ih.mpr ⟨d, e, h2⟩
            omega
    rw [hs]
    constructor
    · rintro ⟨d, hd, h⟩
      obtain ⟨u, h1, h2, h3⟩ := (C_pos k (base ++ [d])).mp h
      refine ⟨d :: u, fun c hc => ?_, by rw [List.length_cons, h2], fun o ho hp => h3 o ho (by rw [List.append_assoc]; exact hp)⟩
      rcases List.mem_cons.mp hc with e | e
      · exact e ▸ digs_iff.mp hd
      · exact h1 c e
    · rintro ⟨u, h1, h2, h3⟩
      cases u with
      | nil => cases h2
      | cons d u =>
        refine ⟨d, digs_iff.mpr (h1 d List.mem_cons_self), (C_pos k (base ++ [d])).mpr ⟨u, fun c hc => h1 c (List.mem_cons_of_mem _ hc), by simpa using h2, fun o ho hp => h3 o ho ?_⟩⟩
        rw [List.append_assoc] at hp
        exact hp
end DD

namespace DD
open PySem PySem.Spec PyProof.Rows L2

/-! ### the shortest longer prefixes: what they are -/
theorem pre_le {a b : List Nat} (h : a <+: b) : ¬ b < a := by
  obtain ⟨c, rfl⟩ := h
  induction a with
  | nil => exact List.not_lt_nil _
  | cons x a ih =>
    rw [List.cons_append, List.cons_lt_cons_iff]
    rintro (h | ⟨_, h⟩)
    · exact absurd h (Nat.lt_irrefl _)
    · exact ih h
structure TopInv (done found : List (List Nat)) : Prop where
  sub : ∀ o ∈ found, o ∈ done
  cov : ∀ q ∈ done, ∃ o ∈ found, o <+: q
  anti : ∀ a ∈ found, ∀ b ∈ found, a <+: b → a = b
  nd : found.Nodup
theorem top_fold : ∀ (os done found : List (List Nat)), TopInv done found → SLe os → (∀ o ∈ os, ∀ q ∈ done, ¬ o < q) → TopInv (done ++ os) (os.foldl addTop found)
  | [], done, found, I, _, _ => by rw [List.append_nil]; exact I
  | o :: os, done, found, I, hs, hd => by
    have hs' := List.pairwise_cons.mp hs
    rw [List.foldl_cons, show done ++ o :: os = (done ++ [o]) ++ os by simp]
    refine top_fold os (done ++ [o]) (addTop found o) ?_ hs'.2 fun o' ho' q hq => ?_
    · unfold addTop
      by_cases h : (found.any fun q => pre q o) = true
      · rw [if_pos h]
        obtain ⟨z, hz, hp⟩ := List.any_eq_true.mp h
        refine ⟨fun a ha => List.mem_append.mpr (.inl (I.sub a ha)), fun q hq => ?_, I.anti, I.nd⟩
        rcases List.mem_append.mp hq with e | e
        · exact I.cov q e
        · rw [List.mem_singleton.mp e]
          exact ⟨z, hz, pre_iff.mp hp⟩
      · rw [if_neg h]
        have no : ∀ q ∈ found, ¬ q <+: o := fun q hq hp => h (List.any_eq_true.mpr ⟨q, hq, pre_iff.mpr hp⟩)
        have no2 : ∀ q ∈ found, ¬ o <+: q := fun q hq hp => by
          have l1 := hd o List.mem_cons_self q (I.sub q hq)
          have l2 := pre_le hp
          exact no q hq (sle_antisymm l1 l2 ▸ List.prefix_refl _)
        refine ⟨fun a ha => ?_, fun q hq => ?_, fun a ha b hb hp => ?_, ?_⟩
        · rcases List.mem_append.mp ha with e | e
          · exact List.mem_append.mpr (.inl (I.sub a e))
          · exact List.mem_append.mpr (.inr e)
        · rcases List.mem_append.mp hq with e | e
          · obtain ⟨z, hz, hp⟩ := I.cov q e
            exact ⟨z, List.mem_append.mpr (.inl hz), hp⟩
          · exact ⟨q, List.mem_append.mpr (.inr e), List.prefix_refl _⟩
        · rcases List.mem_append.mp ha with e | e <;> rcases List.mem_append.mp hb with e' | e'
          · exact I.anti a e b e' hp
          · rw [List.mem_singleton.mp e'] at hp
            exact absurd hp (no a e)
          · rw [List.mem_singleton.mp e] at hp
            exact absurd hp (no2 b e')
          · rw [List.mem_singleton.mp e, List.mem_singleton.mp e']
        · rw [List.nodup_append]
          refine ⟨I.nd, by simp, fun a ha b hb e => ?_⟩
          rw [List.mem_singleton.mp hb] at e
          exact no a ha (e ▸ List.prefix_refl _)
    · rcases List.mem_append.mp hq with e | e
      · exact hd o' (List.mem_cons_of_mem _ ho') q e
      · rw [List.mem_singleton.mp e]
        exact hs'.1 o' ho'
theorem tops_inv (t : List Rule) (p : List Nat) : TopInv (below t p) (tops t p) := by
  have := top_fold (sortL (below t p)) [] [] ⟨fun _ h => (by cases h), fun _ h => (by cases h), fun _ h => (by cases h), List.nodup_nil⟩ (sortL_sorted _) (fun _ _ _ h => by cases h)
  rw [List.nil_append] at this
  have m : ∀ z, z ∈ sortL (below t p) ↔ z ∈ below t p := fun z => (sortL_perm _).mem_iff
  exact ⟨fun o ho => (m o).mp (this.sub o ho), fun q hq => this.cov q ((m q).mpr hq), this.anti, this.nd⟩
theorem below_mem {t : List Rule} {p q : List Nat} : q ∈ below t p ↔ ∃ r ∈ t, r.p = q ∧ p <+: q ∧ q ≠ p := by
  unfold below
  rw [List.mem_map]
  constructor
  · rintro ⟨r, hr, rfl⟩
    have := List.mem_filter.mp hr
    have h2 : pre p r.p = true ∧ (r.p == p) = false := by simpa using this.2
    exact ⟨r, this.1, rfl, pre_iff.mp h2.1, by simpa using h2.2⟩
  · rintro ⟨r, hr, rfl, h1, h2⟩
    exact ⟨r, List.mem_filter.mpr ⟨hr, by simp [pre_iff.mpr h1, h2]⟩, rfl⟩
/-- tables as the program makes them -/
structure TabW (t : List Rule) : Prop where
  dig : ∀ r ∈ t, Digs r.p
  nd : PNodup t
theorem tops_anti {t : List Rule} {p : List Nat} (T : TabW t) : Anti (tops t p) := by
  have I := tops_inv t p
  refine ⟨I.anti, I.nd, fun o ho => ?_⟩
  obtain ⟨r, hr, rfl, _⟩ := below_mem.mp (I.sub o ho)
  exact T.dig r hr
theorem pre_chain {a b s : List Nat} (ha : a <+: s) (hb : b <+: s) (h : a.length ≤ b.length) : a <+: b := by
  obtain ⟨x, rfl⟩ := hb
  obtain ⟨y, hy⟩ := ha
  rcases List.append_eq_append_iff.mp hy with ⟨z, h1, h2⟩ | ⟨z, h1, h2⟩
  · exact ⟨z, h1.symm⟩
  · have : z = [] := by
      have := congrArg List.length h1
      rw [List.length_append] at this
      exact List.eq_nil_of_length_eq_zero (by omega)
    subst this
    rw [List.append_nil] at h1
    rw [h1]
    exact List.prefix_refl _
theorem rule_tops {t : List Rule} {r : Rule} {s : List Nat} (T : TabW t) (hr : r ∈ t) (hp : r.p <+: s) : ruleFor t s = some r ↔ ∀ o ∈ tops t r.p, ¬ o <+: s := by
  have I := tops_inv t r.p
  constructor
  · intro h o ho hos
    obtain ⟨q, hq, e, h1, h2⟩ := below_mem.mp (I.sub o ho)
    have := (ruleFor_some h).2.2 q hq (e ▸ hos)
    rw [e] at this
    exact h2 (pre_chain hos hp this |>.eq_of_length_le h1.length_le)
  · intro h
    refine ruleFor_eq T.nd hr hp fun q hq hqs => Nat.le_of_not_lt fun lt => ?_
    have h1 : r.p <+: q.p := pre_chain hp hqs (Nat.le_of_lt lt)
    obtain ⟨o, ho, hoq⟩ := I.cov q.p (below_mem.mpr ⟨q, hq, rfl, h1, fun e => by rw [e] at lt; exact Nat.lt_irrefl _ lt⟩)
    exact h o ho (hoq.trans hqs)
/-- a number is good with a word -/
def Good (t : List Rule) (w s : List Nat) : Prop := Digs s ∧ ∃ r, ruleFor t s = some r ∧ 0 < r.s ∧ r.s = s.length ∧ r.w = w
theorem cnt_eq {t : List Rule} {r : Rule} {n : Nat} {b : List Nat} (T : TabW t) : cnt t r.p n b =
    if pre b r.p = false ∧ pre r.p b = false then 0 else if n < (if r.p.length < b.length then b else r.p).length then 0 else C (tops t r.p) (n - (if r.p.length < b.length then b else r.p).length) (if r.p.length < b.length then b else r.p) := by
  unfold cnt
  by_cases z : pre b r.p = false ∧ pre r.p b = false
  · rw [if_pos z, if_pos z]
  · rw [if_neg z, if_neg z]
    generalize (if r.p.length < b.length then b else r.p) = base
    simp only
    by_cases q : n < base.length
    · rw [if_pos q, if_pos q]
    · rw [if_neg q, if_neg q]
      have e := C_eq (tops_anti (p := r.p) T) (n - base.length) base
      cases h : (tops t r.p).any fun o => pre o base with
      | true => rw [if_pos rfl, e.1 h]
      | false => rw [if_neg Bool.false_ne_true, e.2 h, foldl_inc, show base.length + (n - base.length) = n by omega]
theorem cnt_nn {t : List Rule} {r : Rule} {n : Nat} {b : List Nat} (T : TabW t) : 0 ≤ cnt t r.p n b := by
  rw [cnt_eq T]
  generalize (if r.p.length < b.length then b else r.p) = base
  split
  · omega
  · split
    · omega
    · exact C_nn _ _ _
theorem cnt_pos {t : List Rule} {r : Rule} {n : Nat} {b : List Nat} (T : TabW t) (hr : r ∈ t) (hb : Digs b) : 0 < cnt t r.p n b ↔ ∃ s, Digs s ∧ s.length = n ∧ b <+: s ∧ ruleFor t s = some r := by
  rw [cnt_eq T]
  by_cases z : pre b r.p = false ∧ pre r.p b = false
  · rw [if_pos z]
    refine ⟨fun h => by omega, ?_⟩
    rintro ⟨s, h1, h2, h3, h4⟩
    have h5 := (ruleFor_some h4).2.1
    rcases Nat.le_total b.length r.p.length with l | l
    · rw [pre_iff.mpr (pre_chain h3 h5 l)] at z
      cases z.1
    · rw [pre_iff.mpr (pre_chain h5 h3 l)] at z
      cases z.2
  · rw [if_neg z]
    generalize hbase : (if r.p.length < b.length then b else r.p) = base
    have hb1 : b <+: base ∧ r.p <+: base := by
      by_cases q : r.p.length < b.length
      · rw [if_pos q] at hbase
        subst hbase
        refine ⟨List.prefix_refl _, ?_⟩
        cases e : pre r.p b with
        | true => exact pre_iff.mp e
        | false =>
          cases e2 : pre b r.p with
          | true =>
            have := (pre_iff.mp e2).length_le
            omega
          | false => exact absurd ⟨e2, e⟩ z
      · rw [if_neg q] at hbase
        subst hbase
        refine ⟨?_, List.prefix_refl _⟩
        cases e2 : pre b r.p with
        | true => exact pre_iff.mp e2
        | false =>
          cases e : pre r.p b with
          | true =>
            have := (pre_iff.mp e).eq_of_length_le (by omega)
            rw [this]
            exact List.prefix_refl _
          | false => exact absurd ⟨e2, e⟩ z
    have hb2 : Digs base := by
      by_cases q : r.p.length < b.length
      · rw [if_pos q] at hbase
        exact hbase ▸ hb
      · rw [if_neg q] at hbase
        exact hbase ▸ T.dig r hr
    have hb3 : ∀ s, b <+: s → r.p <+: s → base <+: s := fun s h1 h2 => by
      by_cases q : r.p.length < b.length
      · rw [if_pos q] at hbase
        exact hbase ▸ h1
      · rw [if_neg q] at hbase
        exact hbase ▸ h2
    by_cases q : n < base.length
    · rw [if_pos q]
      refine ⟨fun h => by omega, ?_⟩
      rintro ⟨s, h1, h2, h3, h4⟩
      have := (hb3 s h3 (ruleFor_some h4).2.1).length_le
      omega
    · rw [if_neg q, C_pos]
      constructor
      · rintro ⟨u, h1, h2, h3⟩
        exact ⟨base ++ u, hb2.app h1, by rw [List.length_append]; omega, hb1.1.trans (List.prefix_append _ _), (rule_tops T hr (hb1.2.trans (List.prefix_append _ _))).mpr h3⟩
      · rintro ⟨s, h1, h2, h3, h4⟩
        have h5 := (ruleFor_some h4).2.1
        obtain ⟨u, rfl⟩ := hb3 s h3 h5
        exact ⟨u, fun c hc => h1 c (List.mem_append.mpr (.inr hc)), by rw [List.length_append] at h2; omega, (rule_tops T hr h5).mp h4⟩
end DD

namespace DD
open PySem PySem.Spec PyProof.Rows L2

/-! ### many_from, live, nexts -/
def sel (t : List Rule) (w : List Nat) : List Rule := t.filter fun r => decide (0 < r.s) && (r.w == w)
def manyF (t : List Rule) (w b : List Nat) : Int := ((sel t w).map fun r => cnt t r.p r.s.toNat b).sum
theorem sel_mem {t : List Rule} {w : List Nat} {r : Rule} : r ∈ sel t w ↔ r ∈ t ∧ 0 < r.s ∧ r.w = w := by
  unfold sel
  rw [List.mem_filter]
  simp
theorem many_from_ok (t : List Rule) (w b : List Nat) (hl : t.length ≤ 1000) (hs : ∀ r ∈ t, r.s ≤ 18) : f_many_from [tabD t, .str w, .str b] = .ok (.int (manyF t w b)) := by
  have run : f_many_from [tabD t, .str w, .str b] = (p_many_from [.d (tabD t), .d (.str w), .d (.str b), .no]).bind finF := rfl
  rw [run]
  unfold p_many_from
  have itT : ∀ l : List Rule, items (tabD l) = .ok (l.map ruleD) := fun _ => rfl
  simp only [retS_eq, calls_eq, aCons_eq, aNil_eq, compV_eq, itVn_eq, vI_zero, noEr_ok', itT, bind_ok]
  rw [compF_all (fun d => match d with | .tup [_, .int s, .str v] => decide (0 < s) && (v == w) | _ => false) (fun d => match d with | .tup [.str p, .int s, _] => .int (cnt t p s.toNat b) | d => d)]
  · rw [filter_map', List.map_map]
    have e : ((fun d => match d with | .tup [.str p, .int s, _] => D.int (cnt t p s.toNat b) | d => d) ∘ ruleD) = fun r : Rule => D.int (cnt t r.p r.s.toNat b) := rfl
    have e2 : (fun x : Rule => match ruleD x with | .tup [_, .int s, .str v] => decide (0 < s) && (v == w) | _ => false) = fun r => decide (0 < r.s) && (r.w == w) := rfl
    rw [e, e2]
    have e3 : (t.filter fun r => decide (0 < r.s) && (r.w == w)).map (fun r : Rule => D.int (cnt t r.p r.s.toNat b)) = ((sel t w).map fun r => cnt t r.p r.s.toNat b).map D.int := by
      rw [List.map_map]
      rfl
    rw [e3]
    have sm : dSum [.lst (((sel t w).map fun r => cnt t r.p r.s.toNat b).map D.int)] = .ok (.int (manyF t w b)) := by
      show (match wholes (((sel t w).map fun r => cnt t r.p r.s.toNat b).map D.int) with | some bs => R.ok (D.int bs.sum) | none => .un) = _
      rw [wholes_map]
      rfl
    simp only [bind_ok, sm, finF_rt]
  · intro x hx
    obtain ⟨r, _, rfl⟩ := List.mem_map.mp hx
    by_cases z : 0 < r.s
    · simp [ruleD, wipeE, dGt, z]
    · simp [ruleD, wipeE, dGt, z]
  · intro x hx hp
    obtain ⟨r, hr, rfl⟩ := List.mem_map.mp hx
    have z : 0 < r.s := by
      have hp : (decide (0 < r.s) && (r.w == w)) = true := hp
      simp at hp
      exact hp.1
    have h18 := hs r hr
    have co := count_ok t r.p b r.s.toNat (by omega) hl
    rw [show ((r.s.toNat : Nat) : Int) = r.s by omega] at co
    simp only [callF_eq, aCons_eq, aNil_eq, wipeE, List.set_cons_succ, List.set_cons_zero, vI_zero, vI_succ, bind_ok, op2_eq, cst_eq]
    simp only [ruleD, dIx_tup, atI_0, atI_1, optR_some, bind_ok, List.length_cons, List.length_nil, if_true, co]
theorem manyF_nn {t : List Rule} {w b : List Nat} (T : TabW t) : 0 ≤ manyF t w b := by
  unfold manyF
  generalize sel t w = l
  induction l with
  | nil => exact Int.le_refl _
  | cons x l ih =>
    have := cnt_nn (r := x) (n := x.s.toNat) (b := b) T
    simp only [List.map_cons, List.sum_cons]
    omega
theorem sum_pos {α : Type} (f : α → Int) (h : ∀ x, 0 ≤ f x) : ∀ l : List α, 0 < (l.map f).sum ↔ ∃ x ∈ l, 0 < f x
  | [] => by simp
  | x :: l => by
    have ih := sum_pos f h l
    have n1 := h x
    have n2 : 0 ≤ (l.map f).sum := by
      clear ih
      induction l with
      | nil => exact Int.le_refl _
      | cons y l ih =>
        have := h y
        simp only [List.map_cons, List.sum_cons]
        omega
    rw [List.map_cons, List.sum_cons]
    constructor
    · intro z
      by_cases q : 0 < f x
      · exact ⟨x, List.mem_cons_self, q⟩
      · obtain ⟨y, hy, h2⟩ := ih.mp (by omega)
        exact ⟨y, List.mem_cons_of_mem _ hy, h2⟩
    · rintro ⟨y, hy, h2⟩
      rcases List.mem_cons.mp hy with e | e
      · subst e
        omega
      · have := ih.mpr ⟨y, e, h2⟩
        omega
theorem manyF_pos {t : List Rule} {w b : List Nat} (T : TabW t) (hb : Digs b) : 0 < manyF t w b ↔ ∃ s, Good t w s ∧ b <+: s := by
  unfold manyF
  rw [sum_pos _ (fun r => cnt_nn (r := r) T)]
  constructor
  · rintro ⟨r, hr, h⟩
    obtain ⟨h1, h2, h3⟩ := sel_mem.mp hr
    obtain ⟨s, a1, a2, a3, a4⟩ := (cnt_pos T h1 hb).mp h
    exact ⟨s, ⟨a1, r, a4, h2, by omega, h3⟩, a3⟩
  · rintro ⟨s, ⟨a1, r, a2, a3, a4, a5⟩, a6⟩
    have h1 := (ruleFor_some a2).1
    exact ⟨r, sel_mem.mpr ⟨h1, a3, a5⟩, (cnt_pos T h1 hb).mpr ⟨s, a1, by omega, a6, a2⟩⟩
def liveB (t : List Rule) (b : List Nat) : Bool := (wordsL t).any fun w => decide (0 < manyF t w b)
theorem live_ok (t : List Rule) (b : List Nat) (hl : t.length ≤ 1000) (hs : ∀ r ∈ t, r.s ≤ 18) : f_live [tabD t, .str b] = .ok (.bl (liveB t b)) := by
  have run : f_live [tabD t, .str b] = (p_live [.d (tabD t), .d (.str b), .no]).bind finF := rfl
  rw [run]
  unfold p_live
  simp only [retS_eq, calls_eq, aCons_eq, aNil_eq, compV_eq, itVn_eq, callF_eq, vI_zero, bind_ok, List.length_cons, List.length_nil, if_true, words_of_ok t (by omega), noEr_ok', items_tup]
  rw [compF_map (fun d => match d with | .str w => .bl (decide (0 < manyF t w b)) | d => d)]
  · have e : ((wordsL t).map D.str).map (fun d => match d with | .str w => D.bl (decide (0 < manyF t w b)) | d => d) = ((wordsL t).map fun w => decide (0 < manyF t w b)).map D.bl := by
      rw [List.map_map, List.map_map]
      rfl
    have any : dAny [.lst (((wordsL t).map fun w => decide (0 < manyF t w b)).map D.bl)] = .ok (.bl (liveB t b)) := by
      show (match truths (((wordsL t).map fun w => decide (0 < manyF t w b)).map D.bl) with | some bs => R.ok (D.bl (bs.any id)) | none => .un) = _
      rw [truths_map]
      show R.ok (D.bl (((wordsL t).map fun w => decide (0 < manyF t w b)).any id)) = _
      rw [List.any_map]
      rfl
    rw [e]
    simp only [bind_ok, any, finF_rt]
  · intro x hx
    obtain ⟨w, _, rfl⟩ := List.mem_map.mp hx
    simp [wipeE, many_from_ok t w b hl hs, dGt]
theorem live_iff {t : List Rule} {b : List Nat} (T : TabW t) (hb : Digs b) : liveB t b = true ↔ ∃ w s, Good t w s ∧ b <+: s := by
  unfold liveB
  rw [List.any_eq_true]
  constructor
  · rintro ⟨w, _, h⟩
    obtain ⟨s, h1, h2⟩ := (manyF_pos T hb).mp (by simpa using h)
    exact ⟨w, s, h1, h2⟩
  · rintro ⟨w, s, h1, h2⟩
    refine ⟨w, ?_, by simpa using (manyF_pos T hb).mpr ⟨s, h1, h2⟩⟩
    obtain ⟨_, r, a1, a2, _, a4⟩ := h1
    exact (wordsL_mem t w).mpr ⟨r, (ruleFor_some a1).1, a2, a4⟩
def nextL (t : List Rule) (b : List Nat) : List Nat := digs.filter fun d => liveB t (b ++ [d])
theorem joinL_nil (l : List (List Nat)) : joinL [] l = l.flatten := by
  cases l with
  | nil => rfl
  | cons z r =>
    show r.foldl (fun acc p => acc ++ [] ++ p) z = z ++ r.flatten
    have : ∀ (r : List (List Nat)) (z : List Nat), r.foldl (fun acc p => acc ++ [] ++ p) z = z ++ r.flatten := fun r => by
      induction r with
      | nil => intro z; simp
      | cons x r ih =>
        intro z
        rw [List.foldl_cons, ih]
        simp
    exact this r z
theorem nexts_ok (t : List Rule) (b : List Nat) (hl : t.length ≤ 1000) (hs : ∀ r ∈ t, r.s ≤ 18) (hb : b.length ≤ 1000) : f_nexts [tabD t, .str b] = .ok (.str (nextL t b)) := by
  have run : f_nexts [tabD t, .str b] = (p_nexts [.d (tabD t), .d (.str b), .no]).bind finF := rfl
  rw [run]
  unfold p_nexts
  simp only [retS_eq, methS_eq, cst_eq, bind_ok, isStr_str, if_true, aCons_eq, aNil_eq, compV_eq, itVn_eq, noEr_ok', items_str]
  have e0 : ([48, 49, 50, 51, 52, 53, 54, 55, 56, 57].map fun c => D.str [c]) = (digs.map fun c => [c]).map D.str := rfl
  rw [compF_all (fun d => match d with | .str [c] => liveB t (b ++ [c]) | _ => false) id]
  · have e : (([48, 49, 50, 51, 52, 53, 54, 55, 56, 57].map fun c => D.str [c]).filter (fun d => match d with | .str [c] => liveB t (b ++ [c]) | _ => false)).map id = ((nextL t b).map fun c => [c]).map D.str := by
      rw [List.map_id, filter_map']
      unfold nextL
      rw [List.map_map]
      rfl
    rw [e]
    have nl : (nextL t b).length ≤ 10 := by
      unfold nextL
      exact List.length_filter_le _ _
    have jo : dJoin (.str []) [.lst (((nextL t b).map fun c => [c]).map D.str)] = .ok (.str (nextL t b)) := by
      have fl : joinL [] ((nextL t b).map fun c => [c]) = nextL t b := by
        rw [joinL_nil]
        induction (nextL t b) with
        | nil => rfl
        | cons x l ih => simp [ih]
      unfold dJoin
      simp only [texts_map]
      rw [fl, if_pos]
      refine ⟨?_, by unfold line; omega⟩
      have : ∀ l : List Nat, ((l.map fun c => [c]).map List.length).sum = l.length := fun l => by
        induction l with
        | nil => rfl
        | cons x l ih =>
          rw [List.map_cons, List.map_cons, List.sum_cons, ih, List.length_cons]
          simp
          omega
      have tl := this (nextL t b)
      simp only [List.length_nil, Nat.mul_zero, Nat.add_zero]
      have tl' : (List.map (fun x => x.length) (List.map (fun c => [c]) (nextL t b))).sum = (nextL t b).length := tl
      omega
    simp only [bind_ok, jo, finF_rt]
  · intro x hx
    obtain ⟨c, _, rfl⟩ := List.mem_map.mp hx
    have ad : dAdd (.str b) (.str [c]) = .ok (.str (b ++ [c])) := dAdd_str (by unfold line; simp; omega)
    simp [wipeE, ad, live_ok t (b ++ [c]) hl hs]
  · intro x hx _
    obtain ⟨c, _, rfl⟩ := List.mem_map.mp hx
    simp [wipeE]
end DD

namespace DD
open PySem PySem.Spec PyProof.Rows L2

/-! ### figures exchanged -/
def tau (o : List Nat) (c : Nat) : Nat := o.getD (c - 48) 0
structure Ord (o : List Nat) : Prop where
  len : o.length = 10
  perm : o.Perm digs
theorem Ord.map {o : List Nat} (O : Ord o) : digs.map (tau o) = o := by
  have h := O.len
  match o, h with
  | [a, b, c, d, e, f, g, h, i, j], _ => rfl
theorem Ord.dig {o : List Nat} (O : Ord o) {c : Nat} (h : Dig c) : Dig (tau o c) := by
  have : tau o c ∈ digs.map (tau o) := List.mem_map.mpr ⟨c, digs_iff.mpr h, rfl⟩
  rw [O.map] at this
  exact digs_iff.mp (O.perm.mem_iff.mp this)
theorem Ord.inj {o : List Nat} (O : Ord o) {c d : Nat} (hc : Dig c) (hd : Dig d) (h : tau o c = tau o d) : c = d := by
  have nd : (digs.map (tau o)).Nodup := by
    rw [O.map]
    exact O.perm.nodup_iff.mpr (by unfold digs; decide)
  have hp : digs.Pairwise fun a b => tau o a ≠ tau o b := List.pairwise_map.mp nd
  have : ∀ l : List Nat, (l.Pairwise fun a b => tau o a ≠ tau o b) → ∀ a ∈ l, ∀ b ∈ l, tau o a = tau o b → a = b := fun l => by
    induction l with
    | nil => intro _ a ha; cases ha
    | cons x l ih =>
      intro hp a ha b hb e
      obtain ⟨h1, h2⟩ := List.pairwise_cons.mp hp
      rcases List.mem_cons.mp ha with z | z <;> rcases List.mem_cons.mp hb with y | y
      · rw [z, y]
      · rw [z] at e
        exact absurd e (h1 b y)
      · rw [y] at e
        exact absurd e.symm (h1 a z)
      · exact ih h2 a z b y e
  exact this digs hp c (digs_iff.mpr hc) d (digs_iff.mpr hd) h
theorem Ord.sur {o : List Nat} (O : Ord o) {d : Nat} (hd : Dig d) : ∃ c, Dig c ∧ tau o c = d := by
  have : d ∈ digs.map (tau o) := by
    rw [O.map]
    exact O.perm.mem_iff.mpr (digs_iff.mpr hd)
  obtain ⟨c, hc, e⟩ := List.mem_map.mp this
  exact ⟨c, digs_iff.mp hc, e⟩
def turn (o s : List Nat) : List Nat := s.map (tau o)
section
variable {o : List Nat}
theorem turn_digs (O : Ord o) {s : List Nat} (h : Digs s) : Digs (turn o s) := fun c hc => by
  obtain ⟨d, hd, rfl⟩ := List.mem_map.mp hc
  exact O.dig (h d hd)
theorem turn_sur (O : Ord o) : ∀ {s : List Nat}, Digs s → ∃ u, Digs u ∧ turn o u = s
  | [], _ => ⟨[], (fun _ h => by cases h), rfl⟩
  | c :: s, h => by
    obtain ⟨u, h1, h2⟩ := turn_sur O (s := s) fun d hd => h d (List.mem_cons_of_mem _ hd)
    obtain ⟨d, h3, h4⟩ := O.sur (h c List.mem_cons_self)
    refine ⟨d :: u, fun z hz => ?_, by show tau o d :: turn o u = _; rw [h4, h2]⟩
    rcases List.mem_cons.mp hz with e | e
    · exact e ▸ h3
    · exact h1 z e
theorem turn_inj (O : Ord o) : ∀ {a b : List Nat}, Digs a → Digs b → turn o a = turn o b → a = b
  | [], [], _, _, _ => rfl
  | [], _ :: _, _, _, h => by cases h
  | _ :: _, [], _, _, h => by cases h
  | c :: a, d :: b, ha, hb, h => by
    have h' : tau o c :: turn o a = tau o d :: turn o b := h
    obtain ⟨h1, h2⟩ := List.cons.inj h'
    rw [O.inj (ha c List.mem_cons_self) (hb d List.mem_cons_self) h1, turn_inj O (fun z hz => ha z (List.mem_cons_of_mem _ hz)) (fun z hz => hb z (List.mem_cons_of_mem _ hz)) h2]
theorem turn_pre (O : Ord o) {a b : List Nat} (ha : Digs a) (hb : Digs b) : turn o a <+: turn o b ↔ a <+: b := by
  constructor
  · intro h
    have e : turn o a = (turn o b).take (turn o a).length := by
      obtain ⟨z, hz⟩ := h
      rw [← hz]
      simp
    have e2 : turn o a = turn o (b.take a.length) := by
      rw [e]
      unfold turn
      rw [List.length_map, List.map_take]
    rw [turn_inj O ha (hb.take _) e2]
    exact List.take_prefix _ _
  · rintro ⟨z, rfl⟩
    exact ⟨turn o z, by unfold turn; rw [List.map_append]⟩
def turnR (o : List Nat) (r : Rule) : Rule := ⟨turn o r.p, r.s, r.w⟩
/-- u is t with the figures exchanged, in any order -/
structure Turned (o : List Nat) (t u : List Rule) : Prop where
  O : Ord o
  tw : TabW t
  uw : TabW u
  perm : u.Perm (t.map (turnR o))
variable {t u : List Rule}
theorem Turned.mem (T : Turned o t u) {q : Rule} : q ∈ u ↔ ∃ r ∈ t, turnR o r = q := by rw [T.perm.mem_iff, List.mem_map]
theorem Turned.ruleFor (T : Turned o t u) {s : List Nat} (hs : Digs s) : DD.ruleFor u (turn o s) = (DD.ruleFor t s).map (turnR o) := by
  cases e : DD.ruleFor t s with
  | none =>
    cases e2 : DD.ruleFor u (turn o s) with
    | none => rfl
    | some q =>
      obtain ⟨h1, h2, _⟩ := ruleFor_some e2
      obtain ⟨r, hr, rfl⟩ := T.mem.mp h1
      exact absurd ((turn_pre T.O (T.tw.dig r hr) hs).mp h2) (ruleFor_none e r hr)
  | some r =>
    obtain ⟨h1, h2, h3⟩ := ruleFor_some e
    refine ruleFor_eq T.uw.nd (T.mem.mpr ⟨r, h1, rfl⟩) ((turn_pre T.O (T.tw.dig r h1) hs).mpr h2) fun q hq hp => ?_
    obtain ⟨r', hr', rfl⟩ := T.mem.mp hq
    have := h3 r' hr' ((turn_pre T.O (T.tw.dig r' hr') hs).mp hp)
    show (turn o r'.p).length ≤ (turn o r.p).length
    unfold turn
    rw [List.length_map, List.length_map]
    exact this
theorem judge_turn (x : Option Rule) (n : Int) : judge (x.map (turnR o)) n = judge x n := by cases x <;> rfl
theorem turn_len (s : List Nat) : (turn o s).length = s.length := List.length_map ..
theorem Turned.says (T : Turned o t u) {s : List Nat} (hs : Digs s) : saysD u (turn o s) = saysD t s := by
  unfold saysD
  rw [T.ruleFor hs, judge_turn, turn_len]
theorem Turned.dial (T : Turned o t u) {s : List Nat} (hs : Digs s) : dialL u (turn o s) = dialL t s := by
  unfold dialL
  rw [turn_len]
  refine List.map_congr_left fun i _ => ?_
  have e : (turn o s).take (i + 1) = turn o (s.take (i + 1)) := by unfold turn; rw [List.map_take]
  rw [e, T.says (hs.take _)]
theorem Turned.good (T : Turned o t u) {w s : List Nat} (hs : Digs s) : Good u w (turn o s) ↔ Good t w s := by
  unfold Good
  rw [T.ruleFor hs]
  constructor
  · rintro ⟨_, r, h1, h2, h3, h4⟩
    obtain ⟨r', e, rfl⟩ := Option.map_eq_some_iff.mp h1
    refine ⟨hs, r', e, h2, ?_, h4⟩
    rw [turn_len] at h3
    exact h3
  · rintro ⟨_, r, h1, h2, h3, h4⟩
    exact ⟨turn_digs T.O hs, turnR o r, by rw [h1]; rfl, h2, by rw [turn_len]; exact h3, h4⟩
theorem Turned.live (T : Turned o t u) {b : List Nat} (hb : Digs b) : liveB u (turn o b) = liveB t b := by
  have h : liveB u (turn o b) = true ↔ liveB t b = true := by
    rw [live_iff T.uw (turn_digs T.O hb), live_iff T.tw hb]
    constructor
    · rintro ⟨w, s, h1, h2⟩
      obtain ⟨s, hs, rfl⟩ := turn_sur T.O h1.1
      exact ⟨w, s, (T.good hs).mp h1, (turn_pre T.O hb hs).mp h2⟩
    · rintro ⟨w, s, h1, h2⟩
      exact ⟨w, turn o s, (T.good h1.1).mpr h1, (turn_pre T.O hb h1.1).mpr h2⟩
  cases e : liveB t b with
  | true => exact h.mpr e
  | false =>
    cases e2 : liveB u (turn o b) with
    | false => rfl
    | true =>
      rw [h.mp e2] at e
      cases e
theorem next_nodup (t : List Rule) (b : List Nat) : (nextL t b).Nodup := List.Pairwise.filter _ (by unfold digs; decide)
theorem next_mem' {t : List Rule} {b : List Nat} {c : Nat} : c ∈ nextL t b ↔ Dig c ∧ liveB t (b ++ [c]) = true := by
  unfold nextL
  rw [List.mem_filter, digs_iff]
theorem Turned.next (T : Turned o t u) {b : List Nat} (hb : Digs b) : (nextL u (turn o b)).Perm (turn o (nextL t b)) := by
  have dn : Digs (nextL t b) := fun c hc => (next_mem'.mp hc).1
  have nd2 : (turn o (nextL t b)).Nodup := by
    refine List.pairwise_map.mpr (List.Pairwise.imp_of_mem (fun {x y} hx hy h e => h (T.O.inj (dn x hx) (dn y hy) e)) (next_nodup t b))
  refine (List.perm_ext_iff_of_nodup (next_nodup u _) nd2).mpr fun c => ?_
  have key : ∀ d, Dig d → liveB u (turn o b ++ [tau o d]) = liveB t (b ++ [d]) := fun d hd => by
    have : turn o b ++ [tau o d] = turn o (b ++ [d]) := by unfold turn; rw [List.map_append]; rfl
    rw [this, T.live (hb.app fun z hz => by rw [List.mem_singleton.mp hz]; exact hd)]
  rw [next_mem']
  unfold turn at key ⊢
  rw [List.mem_map]
  constructor
  · rintro ⟨h1, h2⟩
    obtain ⟨d, hd, rfl⟩ := T.O.sur h1
    exact ⟨d, next_mem'.mpr ⟨hd, by rw [← key d hd]; exact h2⟩, rfl⟩
  · rintro ⟨d, hd, rfl⟩
    obtain ⟨h1, h2⟩ := next_mem'.mp hd
    exact ⟨T.O.dig h1, by rw [key d h1]; exact h2⟩
theorem sum_perm {a b : List Int} (p : a.Perm b) : a.sum = b.sum := by
  induction p with
  | nil => rfl
  | cons x _ ih => simp only [List.sum_cons, ih]
  | swap x y l =>
    simp only [List.sum_cons]
    omega
  | trans _ _ h1 h2 => exact h1.trans h2
theorem tops_any (t : List Rule) (p s : List Nat) : ((tops t p).any fun z => pre z s) = ((below t p).any fun z => pre z s) := by
  have I := tops_inv t p
  cases e : (below t p).any fun z => pre z s with
  | true =>
    obtain ⟨q, hq, hp⟩ := List.any_eq_true.mp e
    obtain ⟨z, hz, hzq⟩ := I.cov q hq
    exact List.any_eq_true.mpr ⟨z, hz, pre_iff.mpr (hzq.trans (pre_iff.mp hp))⟩
  | false =>
    cases e2 : (tops t p).any fun z => pre z s with
    | false => rfl
    | true =>
      obtain ⟨q, hq, hp⟩ := List.any_eq_true.mp e2
      rw [List.any_eq_true.mpr ⟨q, I.sub q hq, hp⟩] at e
      cases e
theorem Turned.below (T : Turned o t u) {p s : List Nat} (hp : Digs p) (hs : Digs s) : ((DD.below u (turn o p)).any fun z => pre z (turn o s)) = ((DD.below t p).any fun z => pre z s) := by
  have h : ((DD.below u (turn o p)).any fun z => pre z (turn o s)) = true ↔ ((DD.below t p).any fun z => pre z s) = true := by
    rw [List.any_eq_true, List.any_eq_true]
    constructor
    · rintro ⟨q, hq, h2⟩
      obtain ⟨r', hr', rfl, h3, h4⟩ := below_mem.mp hq
      obtain ⟨r, hr, rfl⟩ := T.mem.mp hr'
      have dr := T.tw.dig r hr
      exact ⟨r.p, below_mem.mpr ⟨r, hr, rfl, (turn_pre T.O hp dr).mp h3, fun e => h4 (by show turn o r.p = turn o p; rw [e])⟩, pre_iff.mpr ((turn_pre T.O dr hs).mp (pre_iff.mp h2))⟩
    · rintro ⟨q, hq, h2⟩
      obtain ⟨r, hr, rfl, h3, h4⟩ := below_mem.mp hq
      have dr := T.tw.dig r hr
      exact ⟨turn o r.p, below_mem.mpr ⟨turnR o r, T.mem.mpr ⟨r, hr, rfl⟩, rfl, (turn_pre T.O hp dr).mpr h3, fun e => h4 (turn_inj T.O dr hp e)⟩, pre_iff.mpr ((turn_pre T.O dr hs).mpr (pre_iff.mp h2))⟩
  cases e : (DD.below t p).any fun z => pre z s with
  | true => exact h.mpr e
  | false =>
    cases e2 : (DD.below u (turn o p)).any fun z => pre z (turn o s) with
    | false => rfl
    | true =>
      rw [h.mp e2] at e
      cases e
theorem Turned.C (T : Turned o t u) {p : List Nat} (hp : Digs p) : ∀ (k : Nat) (base : List Nat), Digs base → DD.C (tops u (turn o p)) k (turn o base) = DD.C (tops t p) k base
  | 0, base, hb => by
    unfold DD.C
    rw [tops_any, tops_any, T.below hp hb]
  | k + 1, base, hb => by
    show (digs.map fun d => DD.C (tops u (turn o p)) k (turn o base ++ [d])).sum = (digs.map fun d => DD.C (tops t p) k (base ++ [d])).sum
    have p1 : (digs.map (tau o)).Perm digs := by rw [T.O.map]; exact T.O.perm
    rw [← sum_perm (p1.map fun d => DD.C (tops u (turn o p)) k (turn o base ++ [d])), List.map_map]
    congr 1
    refine List.map_congr_left fun d hd => ?_
    have dd := digs_iff.mp hd
    have e : turn o base ++ [tau o d] = turn o (base ++ [d]) := by unfold turn; rw [List.map_append]; rfl
    show DD.C (tops u (turn o p)) k (turn o base ++ [tau o d]) = _
    rw [e]
    exact T.C hp k (base ++ [d]) (hb.app fun z hz => by rw [List.mem_singleton.mp hz]; exact dd)
theorem cnt_nil {t : List Rule} {r : Rule} {n : Nat} (T : TabW t) : cnt t r.p n [] = if n < r.p.length then 0 else DD.C (tops t r.p) (n - r.p.length) r.p := by
  rw [cnt_eq T]
  have h1 : ¬ (pre [] r.p = false ∧ pre r.p [] = false) := fun z => by
    rw [pre_iff.mpr (List.nil_prefix)] at z
    cases z.1
  have h2 : ¬ r.p.length < ([] : List Nat).length := by simp
  rw [if_neg h1, if_neg h2]
theorem Turned.many (T : Turned o t u) (w : List Nat) : manyF u w [] = manyF t w [] := by
  unfold manyF
  have p : (sel u w).Perm ((sel t w).map (turnR o)) := by
    unfold sel
    have := T.perm.filter fun r => decide (0 < r.s) && (r.w == w)
    rw [filter_map'] at this
    exact this
  rw [sum_perm (p.map fun r => cnt u r.p r.s.toNat []), List.map_map]
  congr 1
  refine List.map_congr_left fun r hr => ?_
  obtain ⟨hr, _⟩ := sel_mem.mp hr
  show cnt u (turnR o r).p r.s.toNat [] = cnt t r.p r.s.toNat []
  rw [cnt_nil T.uw, cnt_nil T.tw]
  show (if r.s.toNat < (turn o r.p).length then 0 else DD.C (tops u (turn o r.p)) (r.s.toNat - (turn o r.p).length) (turn o r.p)) = _
  rw [turn_len, T.C (T.tw.dig r hr) _ r.p (T.tw.dig r hr)]
theorem Turned.words (T : Turned o t u) : wordsL u = wordsL t := by
  refine words_eq fun z => ?_
  have a1 : ∀ u : List Rule, z ∈ (u.filter fun q => decide (0 < q.s)).map (·.w) ↔ ∃ q ∈ u, 0 < q.s ∧ q.w = z := fun u => by
    have := wordsL_mem u z
    unfold wordsL at this
    rw [(sortL_perm _).mem_iff, dedL_mem] at this
    exact this
  rw [a1, a1]
  constructor
  · rintro ⟨q, hq, h1, h2⟩
    obtain ⟨r, hr, rfl⟩ := T.mem.mp hq
    exact ⟨r, hr, h1, h2⟩
  · rintro ⟨r, hr, h1, h2⟩
    exact ⟨turnR o r, T.mem.mpr ⟨r, hr, rfl⟩, h1, h2⟩
end
end DD

namespace DD
open PySem PySem.Spec PyProof.Rows L2

/-! ### comprehensions over any embedding -/
theorem compF_gen {α : Type} {tgt : D → Env → R Env} {c : Env → R Bool} {el : Env → R D} {vs : List Nat} {ρ : Env} (emb : α → D) (ρ1 : α → Env) (p : α → Bool) (g : α → D) : ∀ (xs : List α), (∀ x ∈ xs, tgt (emb x) (wipeE ρ vs) = .ok (ρ1 x)) → (∀ x ∈ xs, c (ρ1 x) = .ok (p x)) → (∀ x ∈ xs, p x = true → el (ρ1 x) = .ok (g x)) →
    compF tgt c el vs ρ (xs.map emb) = .ok ((xs.filter p).map g)
  | [], _, _, _ => rfl
  | x :: xs, h0, h1, h2 => by
    have ih := compF_gen emb ρ1 p g xs (fun y hy => h0 y (List.mem_cons_of_mem _ hy)) (fun y hy => h1 y (List.mem_cons_of_mem _ hy)) (fun y hy => h2 y (List.mem_cons_of_mem _ hy))
    rw [List.map_cons]
    unfold compF
    rw [h0 x List.mem_cons_self, bind_ok, h1 x List.mem_cons_self, noEr_ok', bind_ok, ih]
    by_cases hp : p x = true
    · rw [hp, if_pos rfl, h2 x List.mem_cons_self hp, noEr_ok', bind_ok, bind_ok, List.filter_cons_of_pos hp, List.map_cons]
    · rw [if_neg hp, List.filter_cons_of_neg hp]
theorem compF_genm {α : Type} {tgt : D → Env → R Env} {el : Env → R D} {vs : List Nat} {ρ : Env} (emb : α → D) (ρ1 : α → Env) (g : α → D) (xs : List α) (h0 : ∀ x ∈ xs, tgt (emb x) (wipeE ρ vs) = .ok (ρ1 x)) (h2 : ∀ x ∈ xs, el (ρ1 x) = .ok (g x)) :
    compF tgt yesT el vs ρ (xs.map emb) = .ok (xs.map g) := by
  have := compF_gen (tgt := tgt) (c := yesT) (el := el) (vs := vs) (ρ := ρ) emb ρ1 (fun _ => true) g xs h0 (fun _ _ => rfl) fun x hx _ => h2 x hx
  rw [this, List.filter_eq_self.mpr fun _ _ => rfl]

theorem seq_nx {a b : Env → R Out} {ρ ρ' : Env} (h : a ρ = .ok (.nx ρ')) : seqS a b ρ = b ρ' := by
  rw [seqS_eq, h]
  rfl
theorem many_ok (t : List Rule) (w : List Nat) (hl : t.length ≤ 1000) (hs : ∀ r ∈ t, r.s ≤ 18) : f_many [tabD t, .str w] = .ok (.int (manyF t w [])) := by
  show (p_many [.d (tabD t), .d (.str w)]).bind finF = _
  unfold p_many
  simp [many_from_ok t w [] hl hs]
theorem wholes_ints : ∀ l : List Int, wholes (l.map D.int) = some l
  | [] => rfl
  | a :: l => by
    have ih := wholes_ints l
    rw [List.map_cons]
    simp [wholes, ih]
theorem dSum_ints (l : List Int) : dSum [.lst (l.map .int)] = .ok (.int l.sum) := by
  show (match wholes (l.map D.int) with | some bs => R.ok (D.int bs.sum) | none => .un) = _
  rw [wholes_ints]
theorem truths_bls : ∀ l : List Bool, truths (l.map D.bl) = some l
  | [] => rfl
  | a :: l => by
    have ih := truths_bls l
    rw [List.map_cons]
    simp [truths, ih]
theorem dAny_bls (l : List Bool) : dAny [.lst (l.map .bl)] = .ok (.bl (l.any id)) := by
  show (match truths (l.map D.bl) with | some bs => R.ok (D.bl (bs.any id)) | none => .un) = _
  rw [truths_bls]
theorem dAll_bls (l : List Bool) : dAll [.lst (l.map .bl)] = .ok (.bl (l.all id)) := by
  show (match truths (l.map D.bl) with | some bs => R.ok (D.bl (bs.all id)) | none => .un) = _
  rw [truths_bls]

theorem dedL_len : ∀ xs : List (List Nat), (dedL xs).length ≤ xs.length
  | [] => Nat.le_refl _
  | x :: xs => by
    have ih := dedL_len xs
    unfold dedL
    first
      | (split <;> simp <;> omega)
      | (simp; omega)
/-! ### lands -/
abbrev Land := List Nat × List Rule
def landD (l : Land) : D := .tup [.str l.1, tabD l.2]
def landsD (ls : List Land) : D := .tup (ls.map landD)
def crossL : List (List Nat) → Option (List Nat × List Nat)
  | [] => none
  | c :: cs => match cs.find? (pre c) with
    | some o => some (c, o)
    | none => crossL cs
def pairD : Option (List Nat × List Nat) → D
  | none => .non
  | some (a, b) => .tup [.str a, .str b]
theorem cross_inner (L C at_ : Slot) (one : List Nat) : ∀ (os : List (List Nat)) (x : Slot),
    (∀ o, os.find? (pre one) = some o → forF (to1 4) b_crossing_1 (os.map .str) [L, C, at_, .d (.str one), x, .no, .no] = .ok (.rt (.tup [.str one, .str o]))) ∧
    (os.find? (pre one) = none → ∃ x', forF (to1 4) b_crossing_1 (os.map .str) [L, C, at_, .d (.str one), x, .no, .no] = .ok (.nx [L, C, at_, .d (.str one), x', .no, .no]))
  | [], x => ⟨(fun o h => by cases h), fun _ => ⟨x, rfl⟩⟩
  | q :: os, x => by
    have ih := cross_inner L C at_ one os (.d (.str q))
    have bd : b_crossing_1 [L, C, at_, .d (.str one), .d (.str q), .no, .no] = if pre one q = true then .ok (.rt (.tup [.str one, .str q])) else .ok (.nx [L, C, at_, .d (.str one), .d (.str q), .no, .no]) := by
      unfold b_crossing_1
      simp [pre]
    have st : to1 4 (.str q) [L, C, at_, .d (.str one), x, .no, .no] = .ok [L, C, at_, .d (.str one), .d (.str q), .no, .no] := rfl
    by_cases h : pre one q = true
    · rw [List.find?_cons_of_pos h]
      refine ⟨fun o e => ?_, (fun e => by cases e)⟩
      cases e
      rw [List.map_cons, forF_cons, st, bind_ok, bd, if_pos h, bind_ok, forO_rt]
    · rw [List.find?_cons_of_neg h]
      have e1 : forF (to1 4) b_crossing_1 ((q :: os).map .str) [L, C, at_, .d (.str one), x, .no, .no] = forF (to1 4) b_crossing_1 (os.map .str) [L, C, at_, .d (.str one), .d (.str q), .no, .no] := by
        rw [List.map_cons, forF_cons, st, bind_ok, bd, if_neg h, bind_ok, forO_nx]
      rw [e1]
      exact ih
theorem cross_outer (L : Slot) (codes : List (List Nat)) (hl : codes.length ≤ 1000) : ∀ (suf : List (List Nat)) (n : Nat) (x y z : Slot), codes.drop n = suf →
    (∀ o, crossL suf = some o → forF (toN [2, 3]) b_crossing_2 (numb n (suf.map .str)) [L, .d (.lst (codes.map .str)), x, y, z, .no, .no] = .ok (.rt (pairD (some o)))) ∧
    (crossL suf = none → ∃ x' y' z', forF (toN [2, 3]) b_crossing_2 (numb n (suf.map .str)) [L, .d (.lst (codes.map .str)), x, y, z, .no, .no] = .ok (.nx [L, .d (.lst (codes.map .str)), x', y', z', .no, .no]))
  | [], n, x, y, z, _ => ⟨(fun o h => by cases h), fun _ => ⟨x, y, z, rfl⟩⟩
  | c :: suf, n, x, y, z, e => by
    have hs : codes.drop (n + 1) = suf := by
      have := congrArg List.tail e
      rw [List.tail_drop] at this
      exact this
    have ih := cross_outer L codes hl suf (n + 1) (.d (.int n)) (.d (.str c))
    have hi := cross_inner L (.d (.lst (codes.map .str))) (.d (.int n)) c suf z
    have st : toN [2, 3] (.tup [.int n, .str c]) [L, .d (.lst (codes.map .str)), x, y, z, .no, .no] = .ok [L, .d (.lst (codes.map .str)), .d (.int n), .d (.str c), z, .no, .no] := rfl
    have bd : b_crossing_2 [L, .d (.lst (codes.map .str)), .d (.int n), .d (.str c), z, .no, .no] = forF (to1 4) b_crossing_1 (suf.map .str) [L, .d (.lst (codes.map .str)), .d (.int n), .d (.str c), z, .no, .no] := by
      unfold b_crossing_2
      have : ((n : Int) + 1) = ((n + 1 : Nat) : Int) := by omega
      simp only [forS_eq, itVn_eq, slcV_eq, vI_succ, vI_zero, bind_ok, oSome_eq, op2_eq, cst_eq, dAdd_int, asI_int, oNo_eq, dCut_lst, this, cutL_drop, noEr_ok', items_lst]
      rw [← List.map_drop, hs]
    have hf : forF (toN [2, 3]) b_crossing_2 (numb n ((c :: suf).map .str)) [L, .d (.lst (codes.map .str)), x, y, z, .no, .no] = (forF (to1 4) b_crossing_1 (suf.map .str) [L, .d (.lst (codes.map .str)), .d (.int n), .d (.str c), z, .no, .no]).bind (forO (toN [2, 3]) b_crossing_2 (numb (n + 1) (suf.map .str))) := by
      rw [List.map_cons]
      show forF _ _ (.tup [.int n, .str c] :: numb (n + 1) (suf.map .str)) _ = _
      rw [forF_cons, st, bind_ok, bd]
    unfold crossL
    cases h : suf.find? (pre c) with
    | some o =>
      refine ⟨fun o' e' => ?_, fun e' => by cases e'⟩
      cases e'
      rw [hf, hi.1 o h, bind_ok, forO_rt]
      rfl
    | none =>
      obtain ⟨z', hz⟩ := hi.2 h
      have e1 : forF (toN [2, 3]) b_crossing_2 (numb n ((c :: suf).map .str)) [L, .d (.lst (codes.map .str)), x, y, z, .no, .no] = forF (toN [2, 3]) b_crossing_2 (numb (n + 1) (suf.map .str)) [L, .d (.lst (codes.map .str)), .d (.int n), .d (.str c), z', .no, .no] := by
        rw [hf, hz, bind_ok, forO_nx]
      rw [e1]
      exact ih z' hs
@[simp] theorem dEnumA_lst (xs : List D) : dEnumA [.lst xs] = .ok (numb 0 xs) := id rfl
@[simp] theorem dEnumA_tup (xs : List D) : dEnumA [.tup xs] = .ok (numb 0 xs) := id rfl
theorem crossing_ok (ls : List Land) (hl : ls.length ≤ 1000) : f_crossing [landsD ls] = .ok (pairD (crossL (ls.map (·.1)))) := by
  show (p_crossing [.d (landsD ls), .no, .no, .no, .no, .no, .no]).bind finF = _
  unfold p_crossing
  have cp : compF (toN [5, 6]) yesT (vI 5) [5, 6] [.d (landsD ls), .no, .no, .no, .no, .no, .no] (ls.map landD) = .ok (ls.map fun l => .str l.1) :=
    compF_genm landD (fun l => [.d (landsD ls), .no, .no, .no, .no, .d (.str l.1), .d (tabD l.2)]) _ ls (fun _ _ => rfl) fun _ _ => rfl
  have it : items (landsD ls) = .ok (ls.map landD) := rfl
  have e : (ls.map fun l => D.str l.1) = (ls.map (·.1)).map .str := by rw [List.map_map]; rfl
  simp only [seqS_eq, setS_eq, compV_eq, itVn_eq, vI_zero, noEr_ok', bind_ok, it, cp, List.set_cons_zero, List.set_cons_succ, seqO_nx, forS_eq, itR_eq, aCons_eq, aNil_eq, vI_succ, dEnumA_lst, e]
  have h := cross_outer (.d (landsD ls)) (ls.map (·.1)) (by rw [List.length_map]; exact hl) (ls.map (·.1)) 0 .no .no .no rfl
  cases hc : crossL (ls.map (·.1)) with
  | some o =>
    rw [h.1 o hc, bind_ok, seqO_rt, bind_ok, finF_rt]
  | none =>
    obtain ⟨x, y, z, e⟩ := h.2 hc
    rw [e, bind_ok, seqO_nx]
    rfl
end DD

namespace DD
open PySem PySem.Spec PyProof.Rows L2
theorem need_ok (ls : List Land) (hl : ls.length ≤ 1000) : f_need_apart [landsD ls] = if (crossL (ls.map (·.1))).isSome = true then .er 1 else .ok .non := by
  show (p_need_apart [.d (landsD ls)]).bind finF = _
  unfold p_need_apart
  cases h : crossL (ls.map (·.1)) with
  | none => simp [crossing_ok ls hl, h, pairD]
  | some o =>
    obtain ⟨a, b⟩ := o
    simp [crossing_ok ls hl, h, pairD]
structure LandsOk (ls : List Land) : Prop where
  few : ls.length ≤ 1000
  code : ∀ l ∈ ls, l.1.length ≤ 100
  tab : ∀ l ∈ ls, l.2.length ≤ 1000
  pre : ∀ l ∈ ls, ∀ r ∈ l.2, r.p.length ≤ 100
def gathL (ls : List Land) : List Rule := ls.flatMap fun l => ahead l.1 l.2
def joinT (ls : List Land) : List Rule := sortT (gathL ls)
theorem join_loop (L : Slot) : ∀ (ls : List Land) (acc : List Rule) (x y : Slot), LandsOk ls → acc.length + 1000 * ls.length ≤ 10000000 →
    ∃ x' y', forF (toN [2, 3]) b_joined_1 (ls.map landD) [L, .d (tabD acc), x, y] = .ok (.nx [L, .d (tabD (acc ++ gathL ls)), x', y'])
  | [], acc, x, y, _, _ => ⟨x, y, by rw [gathL, List.flatMap_nil, List.append_nil]; rfl⟩
  | l :: ls, acc, x, y, ok, hl => by
    have lt := ok.tab l List.mem_cons_self
    rw [List.length_cons] at hl
    have hlen : (acc ++ ahead l.1 l.2).length ≤ acc.length + 1000 := by
      rw [List.length_append, ahead, List.length_map]
      omega
    obtain ⟨x', y', e⟩ := join_loop L ls (acc ++ ahead l.1 l.2) (.d (.str l.1)) (.d (tabD l.2)) ⟨by have := ok.few; rw [List.length_cons] at this; omega, fun q hq => ok.code q (List.mem_cons_of_mem _ hq), fun q hq => ok.tab q (List.mem_cons_of_mem _ hq), fun q hq => ok.pre q (List.mem_cons_of_mem _ hq)⟩ (by omega)
    refine ⟨x', y', ?_⟩
    have b := behind_ok l.2 l.1 (ok.code l List.mem_cons_self) (ok.pre l List.mem_cons_self) lt
    have ad : dAdd (tabD acc) (tabD (ahead l.1 l.2)) = .ok (tabD (acc ++ ahead l.1 l.2)) := by
      unfold tabD
      rw [dAdd_tup (by rw [List.length_map, List.length_map]; rw [List.length_append] at hlen; unfold line; omega), ← List.map_append]
    rw [List.map_cons, forF_step (ρ1 := [L, .d (tabD acc), .d (.str l.1), .d (tabD l.2)]) (ρ2 := [L, .d (tabD (acc ++ ahead l.1 l.2)), .d (.str l.1), .d (tabD l.2)]) rfl (.inl ?_), e]
    · rw [gathL, gathL, List.flatMap_cons, List.append_assoc]
    · unfold b_joined_1
      simp [b, ad]
theorem joined_ok (ls : List Land) (ok : LandsOk ls) (hc : crossL (ls.map (·.1)) = none) : f_joined [landsD ls] = .ok (tabD (joinT ls)) := by
  show (p_joined [.d (landsD ls), .no, .no, .no]).bind finF = _
  obtain ⟨x, y, e⟩ := join_loop (.d (landsD ls)) ls [] .no .no ok (by have := ok.few; simp; omega)
  have n := need_ok ls ok.few
  rw [hc] at n
  have it : items (landsD ls) = .ok (ls.map landD) := rfl
  have e0 : (D.tup [] : D) = tabD [] := rfl
  unfold p_joined
  simp [n, it]
  rw [e0, e]
  have s := sorted_tab (gathL ls)
  rw [List.nil_append]
  simp [s, joinT]
  rfl
theorem joined_er (ls : List Land) (hl : ls.length ≤ 1000) (hc : (crossL (ls.map (·.1))).isSome = true) : f_joined [landsD ls] = .er 1 := by
  show (p_joined [.d (landsD ls), .no, .no, .no]).bind finF = _
  have n := need_ok ls hl
  rw [hc] at n
  unfold p_joined
  simp [n]
def homeL (s : List Nat) (ls : List Land) : Option (List Nat × List Nat) := (ls.find? fun l => pre l.1 s).map fun l => (l.1, s.drop l.1.length)
theorem home_loop (L : Slot) (s : List Nat) : ∀ (ls : List Land) (x y : Slot),
    (∀ o, homeL s ls = some o → forF (toN [2, 3]) b_home_1 (ls.map landD) [L, .d (.str s), x, y] = .ok (.rt (pairD (some o)))) ∧
    (homeL s ls = none → ∃ x' y', forF (toN [2, 3]) b_home_1 (ls.map landD) [L, .d (.str s), x, y] = .ok (.nx [L, .d (.str s), x', y']))
  | [], x, y => ⟨(fun o h => by cases h), fun _ => ⟨x, y, rfl⟩⟩
  | l :: ls, x, y => by
    have ih := home_loop L s ls (.d (.str l.1)) (.d (tabD l.2))
    have bd : b_home_1 [L, .d (.str s), .d (.str l.1), .d (tabD l.2)] = if pre l.1 s = true then .ok (.rt (.tup [.str l.1, .str (s.drop l.1.length)])) else .ok (.nx [L, .d (.str s), .d (.str l.1), .d (tabD l.2)]) := by
      unfold b_home_1
      simp [pre, cutL_drop]
    have st : toN [2, 3] (landD l) [L, .d (.str s), x, y] = .ok [L, .d (.str s), .d (.str l.1), .d (tabD l.2)] := rfl
    unfold homeL at ih ⊢
    by_cases h : pre l.1 s = true
    · rw [List.find?_cons_of_pos (p := fun l : Land => pre l.1 s) h]
      refine ⟨fun o e => ?_, (fun e => by cases e)⟩
      cases e
      rw [List.map_cons, forF_cons, st, bind_ok, bd, if_pos h, bind_ok, forO_rt]
      rfl
    · rw [List.find?_cons_of_neg (p := fun l : Land => pre l.1 s) h]
      have e1 : forF (toN [2, 3]) b_home_1 ((l :: ls).map landD) [L, .d (.str s), x, y] = forF (toN [2, 3]) b_home_1 (ls.map landD) [L, .d (.str s), .d (.str l.1), .d (tabD l.2)] := by
        rw [List.map_cons, forF_cons, st, bind_ok, bd, if_neg h, bind_ok, forO_nx]
      rw [e1]
      exact ih
theorem home_ok (ls : List Land) (s : List Nat) (hl : ls.length ≤ 1000) (hc : crossL (ls.map (·.1)) = none) : f_home [landsD ls, .str s] = .ok (pairD (homeL s ls)) := by
  show (p_home [.d (landsD ls), .d (.str s), .no, .no]).bind finF = _
  have n := need_ok ls hl
  rw [hc] at n
  have it : items (landsD ls) = .ok (ls.map landD) := rfl
  unfold p_home
  simp [n, it]
  have h := home_loop (.d (landsD ls)) s ls .no .no
  cases q : homeL s ls with
  | some o => rw [h.1 o q]; rfl
  | none =>
    obtain ⟨x, y, e⟩ := h.2 q
    rw [e]
    rfl
theorem home_er (ls : List Land) (s : List Nat) (hl : ls.length ≤ 1000) (hc : (crossL (ls.map (·.1))).isSome = true) : f_home [landsD ls, .str s] = .er 1 := by
  show (p_home [.d (landsD ls), .d (.str s), .no, .no]).bind finF = _
  have n := need_ok ls hl
  rw [hc] at n
  unfold p_home
  simp [n]
/-! codes that do not cross -/
theorem crossL_none : ∀ {cs : List (List Nat)}, crossL cs = none ↔ cs.Pairwise fun a b => ¬ a <+: b
  | [] => by simp [crossL]
  | c :: cs => by
    unfold crossL
    rw [List.pairwise_cons]
    cases h : cs.find? (pre c) with
    | some o =>
      refine ⟨(fun e => by cases e), fun e => ?_⟩
      have h1 := List.mem_of_find?_eq_some h
      have h2 := List.find?_some h
      exact absurd (pre_iff.mp h2) (e.1 o h1)
    | none =>
      rw [List.find?_eq_none] at h
      show crossL cs = none ↔ _
      rw [crossL_none]
      exact ⟨fun e => ⟨fun a ha hp => h a ha (pre_iff.mpr hp), e⟩, fun e => e.2⟩
end DD

namespace DD
open PySem PySem.Spec PyProof.Rows L2
/-! ### lands whose codes do not cross -/
structure Far (ls : List Land) : Prop where
  ap : ls.Pairwise fun a b => ¬ a.1 <+: b.1 ∧ ¬ b.1 <+: a.1
  tw : ∀ l ∈ ls, TabW l.2
  cd : ∀ l ∈ ls, Digs l.1
theorem Far.same {ls : List Land} (F : Far ls) {a b : Land} (ha : a ∈ ls) (hb : b ∈ ls) (h : a.1 <+: b.1 ∨ b.1 <+: a.1) : a = b := by
  have : ∀ {ls : List Land}, (ls.Pairwise fun a b => ¬ a.1 <+: b.1 ∧ ¬ b.1 <+: a.1) → a ∈ ls → b ∈ ls → a = b := fun {ls} => by
    induction ls with
    | nil => intro _ h; cases h
    | cons c cs ih =>
      intro p ha hb
      rw [List.pairwise_cons] at p
      rcases List.mem_cons.mp ha with e1 | e1
      · rcases List.mem_cons.mp hb with e2 | e2
        · rw [e1, e2]
        · subst e1
          have q := p.1 b e2
          exact (h.elim q.1 q.2).elim
      · rcases List.mem_cons.mp hb with e2 | e2
        · subst e2
          have q := p.1 a e1
          exact (h.elim q.2 q.1).elim
        · exact ih p.2 e1 e2
  exact this F.ap ha hb
theorem gath_mem {ls : List Land} {r : Rule} : r ∈ gathL ls ↔ ∃ l ∈ ls, ∃ q ∈ l.2, shift l.1 q = r := by
  unfold gathL ahead
  rw [List.mem_flatMap]
  constructor
  · rintro ⟨l, hl, h⟩
    obtain ⟨q, hq, e⟩ := List.mem_map.mp h
    exact ⟨l, hl, q, hq, e⟩
  · rintro ⟨l, hl, q, hq, e⟩
    exact ⟨l, hl, List.mem_map.mpr ⟨q, hq, e⟩⟩
theorem jn_mem {ls : List Land} {r : Rule} : r ∈ joinT ls ↔ ∃ l ∈ ls, ∃ q ∈ l.2, shift l.1 q = r := by
  unfold joinT
  rw [(sortT_perm _).mem_iff, gath_mem]
theorem app_pre {a b c : List Nat} : a ++ b <+: a ++ c ↔ b <+: c := List.prefix_append_right_inj a
theorem pre_or {a b s : List Nat} (ha : a <+: s) (hb : b <+: s) : a <+: b ∨ b <+: a := by
  rcases Nat.le_total a.length b.length with h | h
  · exact .inl (pre_chain ha hb h)
  · exact .inr (pre_chain hb ha h)
/-- of the rules of all lands but those of one begin as its numbers do -/
theorem Far.own {ls : List Land} (F : Far ls) {l l' : Land} (hl : l ∈ ls) (hl' : l' ∈ ls) {q s : List Nat} (h : l'.1 ++ q <+: l.1 ++ s) : l' = l ∧ q <+: s := by
  have e : l' = l := F.same hl' hl (pre_or ((List.prefix_append _ _).trans h) (List.prefix_append _ _))
  subst e
  exact ⟨rfl, app_pre.mp h⟩
theorem Far.nd {ls : List Land} (F : Far ls) : PNodup (joinT ls) := fun a ha b hb e => by
  obtain ⟨l, hl, q, hq, rfl⟩ := jn_mem.mp ha
  obtain ⟨l', hl', q', hq', rfl⟩ := jn_mem.mp hb
  have e : l.1 ++ q.p = l'.1 ++ q'.p := e
  obtain ⟨rfl, _⟩ := F.own hl' hl (q := q.p) (s := q'.p) (by rw [e]; exact List.prefix_refl _)
  rw [(F.tw l hl).nd q hq q' hq' (List.append_cancel_left e)]
theorem Far.jtw {ls : List Land} (F : Far ls) : TabW (joinT ls) := ⟨fun r hr => by
  obtain ⟨l, hl, q, hq, rfl⟩ := jn_mem.mp hr
  exact (F.cd l hl).app ((F.tw l hl).dig q hq), F.nd⟩
theorem Far.ruleFor {ls : List Land} (F : Far ls) {l : Land} (hl : l ∈ ls) (s : List Nat) : DD.ruleFor (joinT ls) (l.1 ++ s) = (DD.ruleFor l.2 s).map (shift l.1) := by
  cases h : DD.ruleFor l.2 s with
  | none =>
    cases h2 : DD.ruleFor (joinT ls) (l.1 ++ s) with
    | none => rfl
    | some r =>
      obtain ⟨hr, hp, _⟩ := ruleFor_some h2
      obtain ⟨l', hl', q, hq, rfl⟩ := jn_mem.mp hr
      obtain ⟨rfl, hq2⟩ := F.own hl hl' (q := q.p) hp
      exact absurd hq2 (ruleFor_none h q hq)
  | some q =>
    obtain ⟨h1, h2, h3⟩ := ruleFor_some h
    refine ruleFor_eq F.nd (jn_mem.mpr ⟨l, hl, q, h1, rfl⟩) (app_pre.mpr h2) fun r hr hp => ?_
    obtain ⟨l', hl', q', hq', rfl⟩ := jn_mem.mp hr
    obtain ⟨rfl, hq2⟩ := F.own hl hl' (q := q'.p) hp
    have := h3 q' hq' hq2
    show (l'.1 ++ q'.p).length ≤ (l'.1 ++ q.p).length
    rw [List.length_append, List.length_append]
    omega
theorem judge_shift (f : List Nat) (o : Option Rule) (hp : ∀ r, o = some r → 0 ≤ r.s) (n : Nat) : judge (o.map (shift f)) ((f.length + n : Nat) : Int) = judge o n := by
  cases o with
  | none => rfl
  | some r =>
    have h0 := hp r rfl
    unfold judge shift
    simp only [Option.map_some]
    by_cases h : 0 < r.s
    · rw [if_pos h]
      have e1 : (r.s + (f.length : Int) = 0) = (r.s = 0) := by apply propext; omega
      have e2 : (((f.length + n : Nat) : Int) < r.s + f.length) = ((n : Int) < r.s) := by apply propext; omega
      have e3 : (((f.length + n : Nat) : Int) = r.s + f.length) = ((n : Int) = r.s) := by apply propext; omega
      have e4 : r.s + (f.length : Int) - ((f.length + n : Nat) : Int) = r.s - n := by omega
      simp only [e1, e2, e3, e4]
    · have : r.s = 0 := by omega
      rw [if_neg h]
      simp [this]
theorem Far.says {ls : List Land} (F : Far ls) (hs : ∀ l ∈ ls, ∀ r ∈ l.2, 0 ≤ r.s) {l : Land} (hl : l ∈ ls) (s : List Nat) : saysD (joinT ls) (l.1 ++ s) = saysD l.2 s := by
  unfold saysD
  rw [F.ruleFor hl, List.length_append, judge_shift]
  exact fun r hr => hs l hl r (ruleFor_some hr).1
theorem far_none {ls : List Land} {s : List Nat} (h : ∀ l ∈ ls, ¬ l.1 <+: s) : saysD (joinT ls) s = .tup [.str [110, 111, 110, 101]] := by
  have : DD.ruleFor (joinT ls) s = none := by
    cases h2 : DD.ruleFor (joinT ls) s with
    | none => rfl
    | some r =>
      obtain ⟨hr, hp, _⟩ := ruleFor_some h2
      obtain ⟨l', hl', q, hq, rfl⟩ := jn_mem.mp hr
      exact absurd ((List.prefix_append _ _).trans (show l'.1 ++ q.p <+: s from hp)) (h l' hl')
  unfold saysD
  rw [this]
  rfl
theorem Far.home {ls : List Land} (F : Far ls) {l : Land} (hl : l ∈ ls) (s : List Nat) : homeL (l.1 ++ s) ls = some (l.1, s) := by
  unfold homeL
  cases h : ls.find? fun z => pre z.1 (l.1 ++ s) with
  | none =>
    rw [List.find?_eq_none] at h
    exact absurd (pre_iff.mpr (List.prefix_append l.1 s)) (h l hl)
  | some l' =>
    have h1 := List.mem_of_find?_eq_some h
    have h2 : pre l'.1 (l.1 ++ s) = true := List.find?_some (p := fun z : Land => pre z.1 (l.1 ++ s)) h
    have e : l' = l := F.same h1 hl (pre_or (pre_iff.mp h2) (List.prefix_append _ _))
    subst e
    simp
/-! as many numbers as in all lands -/
theorem Far.below {ls : List Land} (F : Far ls) {l : Land} (hl : l ∈ ls) (p s : List Nat) : ((DD.below (joinT ls) (l.1 ++ p)).any fun z => pre z (l.1 ++ s)) = ((DD.below l.2 p).any fun z => pre z s) := by
  rw [Bool.eq_iff_iff, List.any_eq_true, List.any_eq_true]
  constructor
  · rintro ⟨q, hq, h2⟩
    obtain ⟨r', hr', rfl, h3, h4⟩ := below_mem.mp hq
    obtain ⟨l', hl', r, hr, rfl⟩ := jn_mem.mp hr'
    obtain ⟨rfl, h5⟩ := F.own hl hl' (q := r.p) (pre_iff.mp h2)
    exact ⟨r.p, below_mem.mpr ⟨r, hr, rfl, app_pre.mp h3, fun e => h4 (by show l'.1 ++ r.p = _; rw [e])⟩, pre_iff.mpr h5⟩
  · rintro ⟨q, hq, h2⟩
    obtain ⟨r, hr, rfl, h3, h4⟩ := below_mem.mp hq
    exact ⟨l.1 ++ r.p, below_mem.mpr ⟨shift l.1 r, jn_mem.mpr ⟨l, hl, r, hr, rfl⟩, rfl, app_pre.mpr h3, fun e => h4 (List.append_cancel_left e)⟩, pre_iff.mpr (app_pre.mpr (pre_iff.mp h2))⟩
theorem Far.C {ls : List Land} (F : Far ls) {l : Land} (hl : l ∈ ls) (p : List Nat) : ∀ (k : Nat) (base : List Nat), DD.C (tops (joinT ls) (l.1 ++ p)) k (l.1 ++ base) = DD.C (tops l.2 p) k base
  | 0, base => by
    unfold DD.C
    rw [tops_any, tops_any, F.below hl]
  | k + 1, base => by
    show (digs.map fun d => DD.C (tops (joinT ls) (l.1 ++ p)) k (l.1 ++ base ++ [d])).sum = (digs.map fun d => DD.C (tops l.2 p) k (base ++ [d])).sum
    congr 1
    refine List.map_congr_left fun d _ => ?_
    rw [List.append_assoc]
    exact F.C hl p k (base ++ [d])
theorem sum_flat {α β : Type} (f : α → List β) (g : β → Int) : ∀ l : List α, ((l.flatMap f).map g).sum = (l.map fun a => ((f a).map g).sum).sum
  | [] => rfl
  | a :: l => by rw [List.flatMap_cons, List.map_append, List.sum_append, sum_flat f g l, List.map_cons, List.sum_cons]
theorem Far.many {ls : List Land} (F : Far ls) (w : List Nat) : manyF (joinT ls) w [] = (ls.map fun l => manyF l.2 w []).sum := by
  unfold manyF
  have p : (sel (joinT ls) w).Perm (ls.flatMap fun l => (sel l.2 w).map (shift l.1)) := by
    unfold sel joinT
    refine ((sortT_perm _).filter _).trans (List.Perm.of_eq ?_)
    unfold gathL
    rw [List.filter_flatMap]
    congr 1
    funext l
    unfold ahead
    rw [filter_map']
    congr 1
    refine List.filter_congr fun r _ => ?_
    have : decide (0 < (shift l.1 r).s) = decide (0 < r.s) := by
      unfold shift
      by_cases h : 0 < r.s
      · simp only [h, if_true]
        rw [decide_eq_decide]
        constructor
        · intro _; trivial
        · intro _; omega
      · simp only [h, if_false]
    rw [this]
    rfl
  rw [sum_perm (p.map fun r => cnt (joinT ls) r.p r.s.toNat []), sum_flat]
  congr 1
  refine List.map_congr_left fun l hl => ?_
  rw [List.map_map]
  congr 1
  refine List.map_congr_left fun r hr => ?_
  obtain ⟨hr, hs, _⟩ := sel_mem.mp hr
  show cnt (joinT ls) (shift l.1 r).p (shift l.1 r).s.toNat [] = cnt l.2 r.p r.s.toNat []
  rw [cnt_nil F.jtw, cnt_nil (F.tw l hl)]
  have e1 : (shift l.1 r).s.toNat = r.s.toNat + l.1.length := by
    unfold shift
    simp only [hs, if_true]
    omega
  have e2 : (shift l.1 r).p.length = l.1.length + r.p.length := List.length_append
  rw [e1, e2]
  by_cases h : r.s.toNat < r.p.length
  · rw [if_pos h, if_pos (by omega)]
  · rw [if_neg h, if_neg (by omega)]
    have e3 : r.s.toNat + l.1.length - (l.1.length + r.p.length) = r.s.toNat - r.p.length := by omega
    rw [e3]
    exact F.C hl r.p _ r.p
/-! laid over -/
theorem over_rule {a b : List Rule} (ha : PSort a) (hb : PSort b) (s : List Nat) : DD.ruleFor (over a b) s = match DD.ruleFor b s, DD.ruleFor a s with
    | some rb, some ra => if ra.p.length ≤ rb.p.length then some rb else some ra
    | some rb, none => some rb
    | none, ra => ra := by
  have na := nodup_pn (psort_nodup ha)
  have nb := nodup_pn (psort_nodup hb)
  have no := nodup_pn (psort_nodup (over_sorted ha hb))
  cases h1 : DD.ruleFor b s with
  | none =>
    cases h2 : DD.ruleFor a s with
    | none =>
      cases h : DD.ruleFor (over a b) s with
      | none => rfl
      | some r =>
        obtain ⟨hr, hp, _⟩ := ruleFor_some h
        rcases over_mem.mp hr with z | z
        · exact absurd hp (ruleFor_none h1 r z)
        · exact absurd hp (ruleFor_none h2 r z.1)
    | some ra =>
      obtain ⟨g1, g2, g3⟩ := ruleFor_some h2
      refine ruleFor_eq no (over_mem.mpr (.inr ⟨g1, ?_⟩)) g2 fun q hq hp => ?_
      · cases z : has b ra.p with
        | false => rfl
        | true =>
          obtain ⟨q, hq, e⟩ := has_iff.mp z
          exact absurd (e ▸ g2) (ruleFor_none h1 q hq)
      · rcases over_mem.mp hq with z | z
        · exact absurd hp (ruleFor_none h1 q z)
        · exact g3 q z.1 hp
  | some rb =>
    obtain ⟨f1, f2, f3⟩ := ruleFor_some h1
    cases h2 : DD.ruleFor a s with
    | none =>
      refine ruleFor_eq no (over_mem.mpr (.inl f1)) f2 fun q hq hp => ?_
      rcases over_mem.mp hq with z | z
      · exact f3 q z hp
      · exact absurd hp (ruleFor_none h2 q z.1)
    | some ra =>
      obtain ⟨g1, g2, g3⟩ := ruleFor_some h2
      simp only
      by_cases hl : ra.p.length ≤ rb.p.length
      · rw [if_pos hl]
        refine ruleFor_eq no (over_mem.mpr (.inl f1)) f2 fun q hq hp => ?_
        rcases over_mem.mp hq with z | z
        · exact f3 q z hp
        · exact Nat.le_trans (g3 q z.1 hp) hl
      · rw [if_neg hl]
        refine ruleFor_eq no (over_mem.mpr (.inr ⟨g1, ?_⟩)) g2 fun q hq hp => ?_
        · cases z : has b ra.p with
          | false => rfl
          | true =>
            obtain ⟨q, hq, e⟩ := has_iff.mp z
            have := f3 q hq (e ▸ g2)
            rw [e] at this
            exact absurd this hl
        · rcases over_mem.mp hq with z | z
          · have := f3 q z hp
            omega
          · exact g3 q z.1 hp
end DD

namespace DD
open PySem PySem.Spec PyProof.Rows L2
/-! ### dicts with text keys, over any embedding -/
section
variable {α : Type}
abbrev Bk (α : Type) := List (List Nat × α)
def bput (b : Bk α) (k : List Nat) (v : α) : Bk α := if (b.any fun kv => decide (kv.1 = k)) = true then b.map (fun kv => if kv.1 = k then (kv.1, v) else kv) else b ++ [(k, v)]
def encK (g : α → D) (kv : List Nat × α) : List Nat × D := (kv.1, g kv.2)
theorem kPut_encK (g : α → D) (b : Bk α) (k : List Nat) (v : α) : kPut (b.map (encK g)) k (g v) = (bput b k v).map (encK g) := by
  unfold kPut bput
  have e : ((b.map (encK g)).any fun kv => decide (kv.1 = k)) = (b.any fun kv => decide (kv.1 = k)) := by
    rw [List.any_map]
    rfl
  rw [e]
  split
  · rw [List.map_map, List.map_map]
    refine List.map_congr_left fun q _ => ?_
    show (if q.1 = k then (q.1, g v) else (q.1, g q.2)) = encK g (if q.1 = k then (q.1, v) else q)
    split <;> rfl
  · rw [List.map_append]
    rfl
theorem bput_keys (b : Bk α) (k : List Nat) (v : α) (h : (b.map (·.1)).Nodup) : ((bput b k v).map (·.1)).Nodup := by
  unfold bput
  by_cases c : (b.any fun kv => decide (kv.1 = k)) = true
  · rw [if_pos c]
    have e : (b.map (fun kv => if kv.1 = k then (kv.1, v) else kv)).map (·.1) = b.map (·.1) := by
      rw [List.map_map]
      refine List.map_congr_left fun q _ => ?_
      show (if q.1 = k then (q.1, v) else q).1 = q.1
      split <;> rfl
    rw [e]
    exact h
  · rw [if_neg c, List.map_append, List.map_singleton]
    refine List.nodup_append.mpr ⟨h, by simp, fun a ha z hz e => ?_⟩
    have hz : z = k := by simpa using hz
    obtain ⟨q, h1, h2⟩ := List.mem_map.mp ha
    have h2 : q.1 = a := h2
    exact c (List.any_eq_true.mpr ⟨q, h1, decide_eq_true (by rw [h2, e, hz])⟩)
theorem bput_mem {b : Bk α} {k : List Nat} {v : α} {q : List Nat × α} (h : q ∈ bput b k v) : q = (k, v) ∨ q ∈ b := by
  unfold bput at h
  split at h
  · obtain ⟨z, h1, h2⟩ := List.mem_map.mp h
    split at h2
    · rename_i e
      rw [← h2, e]
      exact .inl rfl
    · rw [← h2]
      exact .inr h1
  · rcases List.mem_append.mp h with h | h
    · exact .inr h
    · exact .inl (by simpa using h)
theorem bput_len (b : Bk α) (k : List Nat) (v : α) : (bput b k v).length ≤ b.length + 1 := by
  unfold bput
  split
  · rw [List.length_map]
    omega
  · rw [List.length_append]
    exact Nat.le_refl _
def bget (b : Bk α) (k : List Nat) : Option α := (b.find? fun kv => decide (kv.1 = k)).map (·.2)
theorem kGet_encK (g : α → D) (b : Bk α) (k : List Nat) : kGet (b.map (encK g)) k = (bget b k).map g := by
  unfold kGet bget
  rw [List.find?_map]
  have : ((fun kv : List Nat × D => decide (kv.1 = k)) ∘ encK g) = fun kv => decide (kv.1 = k) := rfl
  rw [this, Option.map_map, Option.map_map]
  rfl
theorem bget_some {b : Bk α} {k : List Nat} {v : α} (h : bget b k = some v) : (k, v) ∈ b := by
  unfold bget at h
  obtain ⟨q, h1, h2⟩ := Option.map_eq_some_iff.mp h
  have h3 := List.mem_of_find?_eq_some h1
  have h4 := List.find?_some h1
  have h4 : q.1 = k := by simpa using h4
  obtain ⟨a, c⟩ := q
  subst h4 h2
  exact h3
theorem bget_of {b : Bk α} {k : List Nat} (h : k ∈ b.map (·.1)) : ∃ v, bget b k = some v := by
  obtain ⟨q, h1, h2⟩ := List.mem_map.mp h
  unfold bget
  cases e : b.find? fun kv => decide (kv.1 = k) with
  | none =>
    rw [List.find?_eq_none] at e
    exact absurd (decide_eq_true h2) (e q h1)
  | some z => exact ⟨z.2, rfl⟩
theorem bget_nd {b : Bk α} {k : List Nat} {v : α} (nd : (b.map (·.1)).Nodup) (h : (k, v) ∈ b) : bget b k = some v := by
  induction b with
  | nil => cases h
  | cons q b ih =>
    rw [List.map_cons, List.nodup_cons] at nd
    unfold bget
    rcases List.mem_cons.mp h with e | e
    · subst e
      rw [List.find?_cons_of_pos (by simp)]
      rfl
    · have ne : ¬ (decide (q.1 = k) = true) := fun z => by
        have z : q.1 = k := by simpa using z
        exact nd.1 (by rw [z]; exact List.mem_map.mpr ⟨_, e, rfl⟩)
      rw [List.find?_cons_of_neg (p := fun kv : List Nat × α => decide (kv.1 = k)) ne]
      exact ih nd.2 e
/-- the pairs by rising keys -/
def bsort (b : Bk α) : Bk α := (sortL (b.map (·.1))).filterMap fun k => (bget b k).map fun v => (k, v)
theorem fm_keys (b : Bk α) : ∀ ks : List (List Nat), (∀ k ∈ ks, k ∈ b.map (·.1)) → (ks.filterMap fun k => (bget b k).map fun v => (k, v)).map (·.1) = ks
  | [], _ => rfl
  | k :: ks, h => by
    obtain ⟨v, e⟩ := bget_of (h k List.mem_cons_self)
    have ih := fm_keys b ks fun z hz => h z (List.mem_cons_of_mem _ hz)
    rw [List.filterMap_cons, e]
    show k :: _ = _
    rw [ih]
theorem bsort_keys (b : Bk α) : (bsort b).map (·.1) = sortL (b.map (·.1)) := fm_keys b _ fun k hk => (sortL_perm _).mem_iff.mp hk
theorem bsort_get {b : Bk α} {q : List Nat × α} (h : q ∈ bsort b) : bget b q.1 = some q.2 := by
  unfold bsort at h
  obtain ⟨k, _, h2⟩ := List.mem_filterMap.mp h
  obtain ⟨v, e, h3⟩ := Option.map_eq_some_iff.mp h2
  rw [← h3]
  exact e
theorem bsort_mem {b : Bk α} {q : List Nat × α} (h : q ∈ bsort b) : q ∈ b := bget_some (bsort_get h)
theorem bsort_len (b : Bk α) : (bsort b).length = b.length := by
  have := congrArg List.length (bsort_keys b)
  rw [List.length_map, (sortL_perm _).length_eq, List.length_map] at this
  exact this
theorem bsort_lt {b : Bk α} (nd : (b.map (·.1)).Nodup) : (bsort b).Pairwise fun x y => x.1 < y.1 := by
  have h := slt_of (sortL_sorted (b.map (·.1))) ((sortL_perm _).nodup_iff.mpr nd)
  rw [← bsort_keys] at h
  exact List.pairwise_map.mp h
theorem bsort_iff {b : Bk α} (nd : (b.map (·.1)).Nodup) {q : List Nat × α} : q ∈ bsort b ↔ q ∈ b := by
  refine ⟨bsort_mem, fun h => ?_⟩
  have hk : q.1 ∈ (bsort b).map (·.1) := by
    rw [bsort_keys, (sortL_perm _).mem_iff]
    exact List.mem_map.mpr ⟨q, h, rfl⟩
  obtain ⟨z, hz, e⟩ := List.mem_map.mp hk
  have e : z.1 = q.1 := e
  have g1 := bsort_get hz
  have g2 := bget_nd nd (k := q.1) (v := q.2) h
  rw [e, g2] at g1
  have : z.2 = q.2 := (Option.some.inj g1).symm
  obtain ⟨z1, z2⟩ := z
  obtain ⟨q1, q2⟩ := q
  simp only at e this
  subst e this
  exact hz
theorem sortedG_bk (g : α → D) (b : Bk α) (h : b.length < 64) : dSortedG [.dct (b.map (encK g))] = .ok (.lst ((bsort b).map fun q => .str q.1)) := by
  show (if (b.map (encK g)).length < 64 then R.ok (D.lst ((sortL ((b.map (encK g)).map (·.1))).map D.str)) else .un) = _
  rw [if_pos (by rw [List.length_map]; exact h), List.map_map]
  have : ((fun x : List Nat × D => x.1) ∘ encK g) = fun q => q.1 := rfl
  rw [this, ← bsort_keys, List.map_map]
  rfl
end
/-! ### the lands of the laws -/
structure LandOk (l : Land) : Prop where
  dig : Digs l.1
  pos : 1 ≤ l.1.length
  len : l.1.length ≤ 4
  tab : TabOk l.2 4
structure LsOk (ls : List Land) : Prop where
  few : ls.length ≤ 4
  ok : ∀ l ∈ ls, LandOk l
  lt : ls.Pairwise fun a b => a.1 < b.1
theorem lands_code (n d : Int) (hn : 0 ≤ n) (M k : Slot) : ∀ (js : List Int) (s : List Nat) (x : Slot), Digs s → s.length + js.length ≤ 1000 →
    ∃ t x', forF (to1 5) b_l_lands_1 (js.map D.int) [.d (.int n), M, k, .d (.int d), .d (.str s), x] = .ok (.nx [.d (.int n), M, k, .d (.int d), .d (.str t), x']) ∧ Digs t ∧ t.length = s.length + js.length
  | [], s, x, hs, _ => ⟨s, x, rfl, hs, rfl⟩
  | j :: js, s, x, hs, hl => by
    have hl' : s.length + (js.length + 1) ≤ 1000 := hl
    obtain ⟨y, h1, h2⟩ := atI_in (xs := [D.int 3, .int 10]) (i := n / 16 % 2) (by omega) (by simp; omega)
    obtain ⟨b, rfl, hb, hb2⟩ : ∃ b : Int, y = .int b ∧ 0 < b ∧ b ≤ 10 := by
      simp at h2
      rcases h2 with h | h
      · exact ⟨3, h, by omega, by omega⟩
      · exact ⟨10, h, by omega, by omega⟩
    have g0 := drawn_nn d j
    have g1 : 0 ≤ drawn d j / 16 % b := Int.emod_nonneg _ (by omega)
    have g2 : drawn d j / 16 % b < b := Int.emod_lt_of_pos _ hb
    obtain ⟨c, h3, h4⟩ := atI_in (xs := [48, 49, 50, 51, 52, 53, 54, 55, 56, 57]) (i := drawn d j / 16 % b) g1 (by simp; omega)
    have hd : Digs (s ++ [c]) := hs.app fun z hz => by rw [List.mem_singleton.mp hz]; exact digs_mem c h4
    obtain ⟨t, x', e, ht, htl⟩ := lands_code n d hn M k js (s ++ [c]) (.d (.int j)) hd (by rw [List.length_append, List.length_singleton]; omega)
    refine ⟨t, x', ?_, ht, by rw [htl, List.length_append, List.length_singleton, List.length_cons]; omega⟩
    rw [List.map_cons, forF_step (ρ2 := [.d (.int n), M, k, .d (.int d), .d (.str (s ++ [c])), .d (.int j)]) rfl (.inl ?_), e]
    unfold b_l_lands_1
    simp [l_drawn, dDiv_ok, dMod_ok, h1, hb, h3]
    rw [dAdd_str (by unfold line; rw [List.length_singleton]; omega)]
    simp
theorem lands_step (n k : Int) (hn : 0 ≤ n) (b : Bk (List Rule)) (nd : (b.map (·.1)).Nodup) (ok : ∀ l ∈ b, LandOk l) (hl : b.length < 60) (x y z : Slot) :
    ∃ (b' : Bk (List Rule)) (x' y' z' : Slot), b_l_lands_2 [.d (.int n), .M (b.map (encK tabD)), .d (.int k), x, y, z] = .ok (.nx [.d (.int n), .M (b'.map (encK tabD)), .d (.int k), x', y', z']) ∧ (b'.map (·.1)).Nodup ∧ (∀ l ∈ b', LandOk l) ∧ b'.length ≤ b.length + 1 := by
  have g := drawn_nn n (80 + k)
  obtain ⟨t, et, T⟩ := l_table (drawn n (90 + k)) 4 (by omega)
  have et : f_l_table [.int (drawn n (90 + k)), .int 4] = .ok (tabD t) := et
  obtain ⟨r, hr, hr2⟩ : ∃ r : Nat, 1 + drawn n (80 + k) / 16 % 4 = r ∧ 1 ≤ r ∧ r ≤ 4 := ⟨(1 + drawn n (80 + k) / 16 % 4).toNat, by omega, by omega, by omega⟩
  obtain ⟨c, z', e, dc, lc⟩ := lands_code n (drawn n (80 + k)) hn (.M (b.map (encK tabD))) (.d (.int k)) ((List.range r).map fun i => 0 + (i : Nat)) [] z (fun _ h => nomatch h) (by simp; omega)
  simp at lc
  refine ⟨bput b c t, .d (.int (drawn n (80 + k))), .d (.str c), z', ?_, bput_keys _ _ _ nd, fun l h => ?_, bput_len _ _ _⟩
  · unfold b_l_lands_2
    rw [seq_nx (ρ' := [.d (.int n), .M (b.map (encK tabD)), .d (.int k), .d (.int (drawn n (80 + k))), y, z]) (by simp [l_drawn])]
    rw [seq_nx (ρ' := [.d (.int n), .M (b.map (encK tabD)), .d (.int k), .d (.int (drawn n (80 + k))), .d (.str []), z]) (by simp)]
    rw [seq_nx (ρ' := [.d (.int n), .M (b.map (encK tabD)), .d (.int k), .d (.int (drawn n (80 + k))), .d (.str c), z']) (by
      simp only [forS_eq, itR_eq, aCons_eq, aNil_eq, op2_eq, cst_eq, vI_succ, vI_zero, bind_ok]
      rw [dDiv_ok (by decide), bind_ok, dMod_ok (by decide), bind_ok, dAdd_int, bind_ok, bind_ok, hr, dRng1_ok (by unfold line; omega), bind_ok, rngL_eq, e])]
    rw [putS_run (kvs := b.map (encK tabD)) (key := c) (d := tabD t) (by simp [l_drawn, et]) rfl (by simp) (by rw [List.length_map]; unfold line; omega), kPut_encK]
    rfl
  · rcases bput_mem h with h | h
    · rw [h]
      exact ⟨dc, by show 1 ≤ c.length; omega, by show c.length ≤ 4; omega, T⟩
    · exact ok l h
theorem lands_loop (n : Int) (hn : 0 ≤ n) : ∀ (ks : List Int) (b : Bk (List Rule)) (w x y z : Slot), (b.map (·.1)).Nodup → (∀ l ∈ b, LandOk l) → b.length + ks.length < 60 →
    ∃ (b' : Bk (List Rule)) (w' x' y' z' : Slot), forF (to1 2) b_l_lands_2 (ks.map D.int) [.d (.int n), .M (b.map (encK tabD)), w, x, y, z] = .ok (.nx [.d (.int n), .M (b'.map (encK tabD)), w', x', y', z']) ∧ (b'.map (·.1)).Nodup ∧ (∀ l ∈ b', LandOk l) ∧ b'.length ≤ b.length + ks.length
  | [], b, w, x, y, z, nd, ok, _ => ⟨b, w, x, y, z, rfl, nd, ok, Nat.le_refl _⟩
  | k :: ks, b, w, x, y, z, nd, ok, hl => by
    rw [List.length_cons] at hl
    obtain ⟨b1, x1, y1, z1, e1, nd1, ok1, l1⟩ := lands_step n k hn b nd ok (by omega) x y z
    obtain ⟨b2, w2, x2, y2, z2, e2, nd2, ok2, l2⟩ := lands_loop n hn ks b1 (.d (.int k)) x1 y1 z1 nd1 ok1 (by omega)
    refine ⟨b2, w2, x2, y2, z2, ?_, nd2, ok2, by rw [List.length_cons]; omega⟩
    rw [List.map_cons, forF_step rfl (.inl e1), e2]
theorem l_lands (n : Int) (hn : 0 ≤ n) : ∃ ls, f_l_lands [.int n] = .ok (landsD ls) ∧ LsOk ls := by
  obtain ⟨r, hr, hr2⟩ : ∃ r : Nat, n % 5 = r ∧ r ≤ 4 := ⟨(n % 5).toNat, by omega, by omega⟩
  obtain ⟨b, w, x, y, z, e, nd, ok, hl⟩ := lands_loop n hn ((List.range r).map fun i => 0 + (i : Nat)) [] .no .no .no .no (by simp) (fun _ h => nomatch h) (by simp; omega)
  have hl : b.length ≤ 4 := by simp at hl; omega
  refine ⟨bsort b, ?_, by rw [bsort_len]; exact hl, fun l h => ok l (bsort_mem h), bsort_lt nd⟩
  show (p_l_lands [.d (.int n), .no, .no, .no, .no, .no]).bind finF = _
  unfold p_l_lands
  rw [seq_nx (ρ' := [.d (.int n), .M [], .no, .no, .no, .no]) (by simp)]
  rw [seq_nx (ρ' := [.d (.int n), .M (b.map (encK tabD)), w, x, y, z]) (by
    simp only [forS_eq, itR_eq, aCons_eq, aNil_eq, op2_eq, cst_eq, vI_zero, bind_ok]
    rw [dMod_ok (by decide), bind_ok, bind_ok, hr, dRng1_ok (by unfold line; omega), bind_ok, rngL_eq]
    exact e)]
  have cp : compF (to1 4) yesT (tupV (aCons (vI 4) (aCons (op2 dGet (vI 1) (vI 4)) (aNil)))) [4] [.d (.int n), .d (.dct (b.map (encK tabD))), w, x, y, z] ((bsort b).map fun q => .str q.1) = .ok ((bsort b).map landD) := by
    refine compF_genm (fun q : Land => D.str q.1) (fun q => [.d (.int n), .d (.dct (b.map (encK tabD))), w, x, .d (.str q.1), z]) landD (bsort b) (fun _ _ => rfl) fun q hq => ?_
    have : dGet (.dct (b.map (encK tabD))) (.str q.1) = .ok (tabD q.2) := by
      show optR (kGet (b.map (encK tabD)) q.1) = _
      rw [kGet_encK, bsort_get hq]
      rfl
    simp [this, landD]
  have sg := sortedG_bk tabD b (by omega)
  simp only [frzS_eq, frzE, List.getElem?_cons_succ, List.getElem?_cons_zero, List.set_cons_succ, List.set_cons_zero, retS_eq, calls_eq, aCons_eq, aNil_eq, compV_eq, itVn_eq, vI_succ, vI_zero, bind_ok, sg, noEr_ok', items_lst, cp, dTuple_lst, finF_rt]
  rfl
end DD

namespace DD
open PySem PySem.Spec PyProof.Rows L2
/-! ### good numbers, one by one -/
def isG (t : List Rule) (w s : List Nat) : Bool := match ruleFor t s with
  | some r => decide (0 < r.s ∧ r.s = s.length ∧ r.w = w)
  | none => false
theorem isG_iff {t : List Rule} {w s : List Nat} : isG t w s = true ↔ ∃ r, ruleFor t s = some r ∧ 0 < r.s ∧ r.s = s.length ∧ r.w = w := by
  unfold isG
  cases h : ruleFor t s with
  | none => simp
  | some r => simp
theorem good_iff {t : List Rule} {w s : List Nat} : Good t w s ↔ Digs s ∧ isG t w s = true := by
  rw [isG_iff]
  rfl
theorem dEq_good (t : List Rule) (w s : List Nat) : dEq (saysD t s) (.tup [.str [103, 111, 111, 100], .str w]) = .ok (.bl (isG t w s)) := by
  rw [dEq_ok (plain_says _ _ 59) (by simp)]
  unfold saysD judge isG
  cases ruleFor t s with
  | none => rfl
  | some r =>
    simp only
    by_cases h0 : r.s = 0
    · rw [if_pos h0, decide_eq_false (by omega)]
      rfl
    · rw [if_neg h0]
      by_cases h1 : (s.length : Int) < r.s
      · rw [if_pos h1, decide_eq_false (by omega)]
        rfl
      · rw [if_neg h1]
        by_cases h2 : (s.length : Int) = r.s
        · rw [if_pos h2]
          congr 2
          show (([103, 111, 111, 100] : List Nat) == [103, 111, 111, 100] && ((r.w == w) && true)) = _
          have : 0 < r.s := by omega
          by_cases h3 : r.w = w
          · rw [h3, decide_eq_true ⟨this, h2.symm, rfl⟩]
            simp
          · simp [h3]
        · rw [if_neg h2, decide_eq_false (by omega)]
          rfl
theorem is_good_ok (t : List Rule) (w s : List Nat) : f_is_good [tabD t, .str w, .str s] = .ok (.bl (isG t w s)) := by
  show (p_is_good [.d (tabD t), .d (.str w), .d (.str s)]).bind finF = _
  unfold p_is_good
  simp [says_ok, dEq_good]
/-! the counts step by step -/
structure TabN (t : List Rule) : Prop where
  tw : TabW t
  nd : t.Nodup
  sz : ∀ r ∈ t, r.s ≤ 18
  few : t.length ≤ 1000
theorem psort_nd {t : List Rule} (h : PSort t) : t.Nodup := h.imp fun {a b} h e => by rw [e] at h; exact List.lt_irrefl _ h
theorem TabOk.tn {t : List Rule} {m : Nat} (T : TabOk t m) (hm : m ≤ 1000) : TabN t := ⟨⟨fun r hr => (T.ok r hr).dig, T.nd⟩, psort_nd T.ord, fun r hr => by rcases (T.ok r hr).body with h | h <;> omega, Nat.le_trans T.len hm⟩
theorem cnt_step {t : List Rule} {r : Rule} {n : Nat} {b : List Nat} (T : TabW t) (hr : r ∈ t) : cnt t r.p n b = (if b.length = n ∧ ruleFor t b = some r then 1 else 0) + (digs.map fun d => cnt t r.p n (b ++ [d])).sum := by
  have dg := T.dig r hr
  by_cases pb : r.p <+: b
  · -- the prefix is there
    have base : ∀ c : List Nat, r.p <+: c → (if r.p.length < c.length then c else r.p) = c := fun c h => by
      by_cases l : r.p.length < c.length
      · rw [if_pos l]
      · rw [if_neg l]
        exact h.eq_of_length_le (by omega)
    have val : ∀ c : List Nat, r.p <+: c → cnt t r.p n c = if n < c.length then 0 else C (tops t r.p) (n - c.length) c := fun c h => by
      rw [cnt_eq T, if_neg (fun z => by rw [pre_iff.mpr h] at z; cases z.2), base c h]
    have up : ∀ d, r.p <+: b ++ [d] := fun d => pb.trans (List.prefix_append _ _)
    have e : (digs.map fun d => cnt t r.p n (b ++ [d])) = digs.map fun d => if n < b.length + 1 then 0 else C (tops t r.p) (n - (b.length + 1)) (b ++ [d]) := List.map_congr_left fun d _ => by
      rw [val _ (up d), List.length_append, List.length_singleton]
    rw [val b pb, e]
    by_cases h1 : n < b.length
    · rw [if_pos h1, if_neg (by omega)]
      have : (digs.map fun d => if n < b.length + 1 then (0 : Int) else C (tops t r.p) (n - (b.length + 1)) (b ++ [d])).sum = 0 := sum_map_zero _ _ fun d _ => if_pos (by omega)
      omega
    · rw [if_neg h1]
      by_cases h2 : b.length = n
      · have z : (digs.map fun d => if n < b.length + 1 then (0 : Int) else C (tops t r.p) (n - (b.length + 1)) (b ++ [d])).sum = 0 := sum_map_zero _ _ fun d _ => if_pos (by omega)
        rw [z, Int.add_zero, show n - b.length = 0 by omega]
        unfold C
        by_cases h3 : ((tops t r.p).any fun o => pre o b) = true
        · rw [if_pos h3, if_neg]
          rintro ⟨_, h4⟩
          obtain ⟨o, ho, hp⟩ := List.any_eq_true.mp h3
          exact (rule_tops T hr pb).mp h4 o ho (pre_iff.mp hp)
        · rw [if_neg h3, if_pos]
          exact ⟨h2, (rule_tops T hr pb).mpr fun o ho hp => h3 (List.any_eq_true.mpr ⟨o, ho, pre_iff.mpr hp⟩)⟩
      · rw [if_neg (fun z => h2 z.1), Int.zero_add, show n - b.length = (n - (b.length + 1)) + 1 by omega]
        show (digs.map fun d => C (tops t r.p) (n - (b.length + 1)) (b ++ [d])).sum = _
        congr 1
        exact List.map_congr_left fun d _ => (if_neg (by omega)).symm
  · have ni : ¬ (b.length = n ∧ ruleFor t b = some r) := fun z => pb (ruleFor_some z.2).2.1
    rw [if_neg ni, Int.zero_add]
    by_cases bp : b <+: r.p
    · -- the beginning is shorter than the prefix
      have lt : b.length < r.p.length := by
        rcases Nat.lt_or_ge b.length r.p.length with h | h
        · exact h
        · exact absurd (by rw [bp.eq_of_length_le h]; exact List.prefix_refl _) pb
      obtain ⟨z, hz⟩ := bp
      cases z with
      | nil =>
        rw [List.append_nil] at hz
        rw [hz] at lt
        exact absurd lt (Nat.lt_irrefl _)
      | cons d0 z =>
        have hd0 : Dig d0 := dg d0 (by rw [← hz]; simp)
        have val : ∀ c : List Nat, c <+: r.p → cnt t r.p n c = if n < r.p.length then 0 else C (tops t r.p) (n - r.p.length) r.p := fun c h => by
          have l := h.length_le
          have nl : ¬ r.p.length < c.length := by omega
          rw [cnt_eq T, if_neg (fun z => by rw [pre_iff.mpr h] at z; cases z.1), if_neg nl]
        have e : (digs.map fun d => cnt t r.p n (b ++ [d])) = digs.map fun d => if d = d0 then cnt t r.p n b else 0 := List.map_congr_left fun d _ => by
          by_cases hd : d = d0
          · rw [if_pos hd, hd, val b ⟨_, hz⟩, val (b ++ [d0]) ⟨z, by rw [← hz]; simp⟩]
          · rw [if_neg hd, cnt_eq T, if_pos]
            refine ⟨?_, ?_⟩
            · cases q : pre (b ++ [d]) r.p with
              | false => rfl
              | true =>
                obtain ⟨y, hy⟩ := pre_iff.mp q
                rw [← hz, List.append_assoc] at hy
                have := List.append_cancel_left hy
                simp at this
                exact absurd this.1 hd
            · cases q : pre r.p (b ++ [d]) with
              | false => rfl
              | true =>
                have l := (pre_iff.mp q).length_le
                rw [List.length_append, List.length_singleton] at l
                have := (pre_iff.mp q).eq_of_length_le (by rw [List.length_append, List.length_singleton]; omega)
                rw [← hz] at this
                have := List.append_cancel_left this
                simp at this
                exact absurd this.1.symm hd
        rw [e, sum_digs d0 hd0]
    · have z1 : pre b r.p = false ∧ pre r.p b = false := ⟨by cases q : pre b r.p with | false => rfl | true => exact absurd (pre_iff.mp q) bp, by cases q : pre r.p b with | false => rfl | true => exact absurd (pre_iff.mp q) pb⟩
      rw [cnt_eq T, if_pos z1]
      refine (sum_map_zero _ _ fun d _ => ?_).symm
      rw [cnt_eq T, if_pos]
      refine ⟨?_, ?_⟩
      · cases q : pre (b ++ [d]) r.p with
        | false => rfl
        | true => exact absurd ((List.prefix_append _ _).trans (pre_iff.mp q)) bp
      · cases q : pre r.p (b ++ [d]) with
        | false => rfl
        | true =>
          have := pre_snoc q z1.2
          exact absurd (by rw [this]; exact List.prefix_append _ _) bp
theorem sum_ind {α : Type} [DecidableEq α] (a : α) : ∀ l : List α, l.Nodup → (l.map fun x => if x = a then (1 : Int) else 0).sum = if a ∈ l then 1 else 0
  | [], _ => rfl
  | x :: l, h => by
    have h := List.nodup_cons.mp h
    rw [List.map_cons, List.sum_cons, sum_ind a l h.2]
    by_cases e : x = a
    · subst e
      rw [if_pos rfl, if_neg h.1, if_pos List.mem_cons_self]
      rfl
    · rw [if_neg e, Int.zero_add]
      by_cases m : a ∈ l
      · rw [if_pos m, if_pos (List.mem_cons_of_mem _ m)]
      · rw [if_neg m, if_neg (fun q => (List.mem_cons.mp q).elim (fun z => e z.symm) m)]
theorem manyF_step {t : List Rule} (T : TabN t) (w b : List Nat) : manyF t w b = (if isG t w b = true then 1 else 0) + (digs.map fun d => manyF t w (b ++ [d])).sum := by
  unfold manyF
  have e1 : ((sel t w).map fun r => cnt t r.p r.s.toNat b) = (sel t w).map fun r => (if b.length = r.s.toNat ∧ ruleFor t b = some r then (1 : Int) else 0) + (digs.map fun d => cnt t r.p r.s.toNat (b ++ [d])).sum := List.map_congr_left fun r hr => cnt_step T.tw (sel_mem.mp hr).1
  rw [e1, sum_map_add, sum_swap (fun (r : Rule) (d : Nat) => cnt t r.p r.s.toNat (b ++ [d]))]
  congr 1
  cases h : ruleFor t b with
  | none =>
    have : isG t w b = false := by unfold isG; rw [h]
    rw [this, if_neg (by decide)]
    exact sum_map_zero _ _ fun r _ => if_neg (fun z => by cases z.2)
  | some r0 =>
    have h0 := (ruleFor_some h).1
    by_cases g : isG t w b = true
    · rw [if_pos g]
      obtain ⟨r, g1, g2, g3, g4⟩ := isG_iff.mp g
      rw [h] at g1
      cases g1
      have e2 : ((sel t w).map fun r => if b.length = r.s.toNat ∧ some r0 = some r then (1 : Int) else 0) = (sel t w).map fun r => if r = r0 then (1 : Int) else 0 := List.map_congr_left fun r _ => by
        by_cases e : r = r0
        · subst e
          rw [if_pos rfl, if_pos ⟨by omega, rfl⟩]
        · rw [if_neg e, if_neg (fun z => e (Option.some.inj z.2).symm)]
      rw [e2, sum_ind r0 (sel t w) (List.Pairwise.filter _ T.nd), if_pos (sel_mem.mpr ⟨h0, g2, g4⟩)]
    · rw [if_neg g]
      refine sum_map_zero _ _ fun r hr => if_neg ?_
      rintro ⟨z1, z2⟩
      cases z2
      obtain ⟨_, s1, s2⟩ := sel_mem.mp hr
      exact g (isG_iff.mpr ⟨r0, h, s1, by omega, s2⟩)
theorem manyF_zero {t : List Rule} (T : TabN t) (w b : List Nat) (h : 18 < b.length) : manyF t w b = 0 := by
  unfold manyF
  refine sum_map_zero _ _ fun r hr => ?_
  have hr := (sel_mem.mp hr).1
  have sz := T.sz r hr
  rw [cnt_eq T.tw]
  by_cases z : pre b r.p = false ∧ pre r.p b = false
  · rw [if_pos z]
  · rw [if_neg z, if_pos]
    by_cases l : r.p.length < b.length
    · rw [if_pos l]; omega
    · rw [if_neg l]; omega
def gl (t : List Rule) (w : List Nat) : Nat → List Nat → List (List Nat)
  | 0, b => if isG t w b = true then [b] else []
  | k + 1, b => (if isG t w b = true then [b] else []) ++ digs.flatMap fun d => gl t w k (b ++ [d])
theorem len_flat {α β : Type} (f : α → List β) : ∀ l : List α, ((l.flatMap f).length : Int) = (l.map fun a => ((f a).length : Int)).sum
  | [] => rfl
  | a :: l => by
    rw [List.flatMap_cons, List.length_append, List.map_cons, List.sum_cons, ← len_flat f l]
    omega
theorem gl_len {t : List Rule} (T : TabN t) (w : List Nat) : ∀ (k : Nat) (b : List Nat), 18 ≤ b.length + k → manyF t w b = (gl t w k b).length
  | 0, b, h => by
    rw [manyF_step T, sum_map_zero]
    · unfold gl
      split <;> rfl
    · intro d _
      exact manyF_zero T _ _ (by rw [List.length_append, List.length_singleton]; omega)
  | k + 1, b, h => by
    rw [manyF_step T]
    show _ = (((if isG t w b = true then [b] else []) ++ digs.flatMap fun d => gl t w k (b ++ [d])).length : Int)
    have e : (digs.map fun d => manyF t w (b ++ [d])) = digs.map fun d => ((gl t w k (b ++ [d])).length : Int) := List.map_congr_left fun d _ => gl_len T w k (b ++ [d]) (by rw [List.length_append, List.length_singleton]; omega)
    rw [e, ← len_flat, List.length_append]
    split <;> simp
theorem gl_mem {t : List Rule} {w : List Nat} : ∀ {k : Nat} {b s : List Nat}, s ∈ gl t w k b ↔ isG t w s = true ∧ ∃ u, s = b ++ u ∧ Digs u ∧ u.length ≤ k
  | 0, b, s => by
    unfold gl
    constructor
    · intro h
      split at h
      · rename_i g
        have : s = b := by simpa using h
        subst this
        exact ⟨g, [], by simp, (fun _ h => nomatch h), Nat.le_refl _⟩
      · cases h
    · rintro ⟨g, u, rfl, _, h⟩
      have : u = [] := List.eq_nil_of_length_eq_zero (by omega)
      subst this
      rw [List.append_nil] at g ⊢
      rw [if_pos g]
      exact List.mem_cons_self
  | k + 1, b, s => by
    show s ∈ (if isG t w b = true then [b] else []) ++ digs.flatMap (fun d => gl t w k (b ++ [d])) ↔ _
    rw [List.mem_append, List.mem_flatMap]
    constructor
    · rintro (h | ⟨d, hd, h⟩)
      · split at h
        · rename_i g
          have : s = b := by simpa using h
          subst this
          exact ⟨g, [], by simp, (fun _ h => nomatch h), Nat.zero_le _⟩
        · cases h
      · obtain ⟨g, u, rfl, du, lu⟩ := gl_mem.mp h
        refine ⟨g, d :: u, by simp, fun c hc => ?_, by rw [List.length_cons]; omega⟩
        rcases List.mem_cons.mp hc with e | e
        · rw [e]
          exact digs_iff.mp hd
        · exact du c e
    · rintro ⟨g, u, rfl, du, lu⟩
      cases u with
      | nil =>
        rw [List.append_nil] at g ⊢
        rw [if_pos g]
        exact .inl List.mem_cons_self
      | cons d u =>
        refine .inr ⟨d, digs_iff.mpr (du d List.mem_cons_self), gl_mem.mpr ⟨g, u, by simp, fun c hc => du c (List.mem_cons_of_mem _ hc), by rw [List.length_cons] at lu; omega⟩⟩
theorem gl_lt {t : List Rule} {w : List Nat} : ∀ (k : Nat) (b : List Nat), (gl t w k b).Pairwise fun x y => x < y
  | 0, b => by
    unfold gl
    split <;> simp
  | k + 1, b => by
    show ((if isG t w b = true then [b] else []) ++ digs.flatMap (fun d => gl t w k (b ++ [d]))).Pairwise _
    refine List.pairwise_append.mpr ⟨by split <;> simp, ?_, fun x hx y hy => ?_⟩
    · have : ∀ ds : List Nat, ds.Pairwise (fun a b => a < b) → (ds.flatMap fun d => gl t w k (b ++ [d])).Pairwise fun x y => x < y := fun ds => by
        induction ds with
        | nil => intro _; exact List.Pairwise.nil
        | cons d ds ih =>
          intro h
          have h := List.pairwise_cons.mp h
          rw [List.flatMap_cons]
          refine List.pairwise_append.mpr ⟨gl_lt k _, ih h.2, fun x hx y hy => ?_⟩
          obtain ⟨_, u, rfl, _⟩ := gl_mem.mp hx
          obtain ⟨d2, hd2, hy⟩ := List.mem_flatMap.mp hy
          obtain ⟨_, u2, rfl, _⟩ := gl_mem.mp hy
          rw [List.append_assoc, List.append_assoc]
          refine app_lt.mpr ?_
          show d :: u < d2 :: u2
          rw [List.cons_lt_cons_iff]
          exact .inl (h.1 d2 hd2)
      exact this digs (by unfold digs; decide)
    · split at hx
      · have : x = b := by simpa using hx
        subst this
        obtain ⟨d, _, hy⟩ := List.mem_flatMap.mp hy
        obtain ⟨_, u, rfl, _⟩ := gl_mem.mp hy
        rw [List.append_assoc]
        have := (app_lt (f := x) (a := []) (b := [d] ++ u)).mpr (List.nil_lt_cons _ _)
        rw [List.append_nil] at this
        exact this
      · cases hx
end DD

namespace DD
open PySem PySem.Spec PyProof.Rows L2
/-! ### nth -/
theorem step_loop {t : List Rule} (T : TabN t) (w b : List Nat) (k : Nat) (hb : b.length ≤ 100) (hk : 18 ≤ b.length + 1 + k) : ∀ (ds : List Nat) (at_ : Nat) (x y : Slot), at_ < (ds.flatMap fun d => gl t w k (b ++ [d])).length →
    ∃ d at', d ∈ ds ∧ forF (to1 4) b_step_from_1 (ds.map fun c => .str [c]) [.d (tabD t), .d (.str w), .d (.str b), .d (.int at_), x, y] = .ok (.rt (.tup [.str (b ++ [d]), .int (at' : Nat)])) ∧ at' < (gl t w k (b ++ [d])).length ∧ (ds.flatMap fun d => gl t w k (b ++ [d]))[at_]? = (gl t w k (b ++ [d]))[at']?
  | [], at_, x, y, h => by simp at h
  | d :: ds, at_, x, y, h => by
    have mf := many_from_ok t w (b ++ [d]) T.few T.sz
    rw [gl_len T w k (b ++ [d]) (by rw [List.length_append, List.length_singleton]; omega)] at mf
    have ad : dAdd (.str b) (.str [d]) = .ok (.str (b ++ [d])) := dAdd_str (by unfold line; simp; omega)
    rw [List.flatMap_cons, List.length_append] at h
    by_cases lt : at_ < (gl t w k (b ++ [d])).length
    · refine ⟨d, at_, List.mem_cons_self, ?_, lt, by rw [List.flatMap_cons, List.getElem?_append_left lt]⟩
      have bd : b_step_from_1 [.d (tabD t), .d (.str w), .d (.str b), .d (.int at_), .d (.str [d]), y] = .ok (.rt (.tup [.str (b ++ [d]), .int (at_ : Nat)])) := by
        unfold b_step_from_1
        simp [ad, mf, lt]
      rw [List.map_cons, forF_cons, to1_eq, bind_ok]
      show (b_step_from_1 [.d (tabD t), .d (.str w), .d (.str b), .d (.int at_), .d (.str [d]), y]).bind _ = _
      rw [bd, bind_ok, forO_rt]
    · obtain ⟨d', at', hd, e, h1, h2⟩ := step_loop T w b k hb hk ds (at_ - (gl t w k (b ++ [d])).length) (.d (.str [d])) (.d (.int (gl t w k (b ++ [d])).length)) (by omega)
      refine ⟨d', at', List.mem_cons_of_mem _ hd, ?_, h1, by rw [List.flatMap_cons, List.getElem?_append_right (by omega), h2]⟩
      rw [List.map_cons, forF_step (ρ1 := [.d (tabD t), .d (.str w), .d (.str b), .d (.int at_), .d (.str [d]), y]) (ρ2 := [.d (tabD t), .d (.str w), .d (.str b), .d (.int ((at_ - (gl t w k (b ++ [d])).length : Nat) : Int)), .d (.str [d]), .d (.int (gl t w k (b ++ [d])).length)]) rfl (.inl ?_), e]
      unfold b_step_from_1
      have e3 : ((at_ - (gl t w k (b ++ [d])).length : Nat) : Int) = (at_ : Int) - (gl t w k (b ++ [d])).length := by omega
      simp [ad, mf, lt, e3]
theorem step_ok {t : List Rule} (T : TabN t) (w b : List Nat) (k at_ : Nat) (hb : b.length ≤ 100) (hk : 18 ≤ b.length + 1 + k) (h : at_ < (digs.flatMap fun d => gl t w k (b ++ [d])).length) :
    ∃ d at', Dig d ∧ f_step_from [tabD t, .str w, .str b, .int at_] = .ok (.tup [.str (b ++ [d]), .int (at' : Nat)]) ∧ at' < (gl t w k (b ++ [d])).length ∧ (digs.flatMap fun d => gl t w k (b ++ [d]))[at_]? = (gl t w k (b ++ [d]))[at']? := by
  obtain ⟨d, at', hd, e, h1, h2⟩ := step_loop T w b k hb hk digs at_ .no .no h
  refine ⟨d, at', digs_iff.mp hd, ?_, h1, h2⟩
  show (p_step_from [.d (tabD t), .d (.str w), .d (.str b), .d (.int at_), .no, .no]).bind finF = _
  unfold p_step_from
  have it : items (.str [48, 49, 50, 51, 52, 53, 54, 55, 56, 57]) = .ok (digs.map fun c => .str [c]) := rfl
  simp only [seqS_eq, forS_eq, itVn_eq, cst_eq, noEr_ok', bind_ok, it, e, seqO_rt, finF_rt]
theorem isG_nil (t : List Rule) (w : List Nat) : isG t w [] = false := by
  cases h : isG t w [] with
  | false => rfl
  | true =>
    obtain ⟨r, _, h1, h2, _⟩ := isG_iff.mp h
    simp at h2
    omega
theorem nth_loop {t : List Rule} (T : TabN t) (w : List Nat) : ∀ (k : Nat) (b : List Nat) (at_ n : Nat), b.length + k = 18 → k < n → at_ < (gl t w k b).length →
    ∃ s x, whF (orT (tst (op2 dGt (vI 2) (cst (.int 0)))) (orT (tst (op2 dEq (vI 3) (cst (.str [])))) (notT (tst (callF 3 f_is_good (aCons (vI 0) (aCons (vI 1) (aCons (vI 3) (aNil)))))))))
      b_nth_1 n [.d (tabD t), .d (.str w), .d (.int at_), .d (.str b)] = .ok (.nx [.d (tabD t), .d (.str w), x, .d (.str s)]) ∧ (gl t w k b)[at_]? = some s
  | k, b, at_, 0, _, h, _ => by omega
  | k, b, at_, n + 1, hk, hn, h => by
    have co : (orT (tst (op2 dGt (vI 2) (cst (.int 0)))) (orT (tst (op2 dEq (vI 3) (cst (.str [])))) (notT (tst (callF 3 f_is_good (aCons (vI 0) (aCons (vI 1) (aCons (vI 3) (aNil)))))))))
        [.d (tabD t), .d (.str w), .d (.int at_), .d (.str b)] = .ok (decide (0 < at_) || (decide (b = []) || !isG t w b)) := by
      simp [is_good_ok]
      by_cases h0 : 0 < at_
      · simp [h0]
      · by_cases h1 : b = []
        · simp [h0, h1]
        · simp [h0, h1]
    rw [whF_succ, co, bind_ok]
    by_cases stop : at_ = 0 ∧ b ≠ [] ∧ isG t w b = true
    · obtain ⟨s1, s2, s3⟩ := stop
      subst s1
      have : (decide (0 < 0) || (decide (b = []) || !isG t w b)) = false := by simp [s2, s3]
      rw [this, if_neg (by decide)]
      refine ⟨b, _, rfl, ?_⟩
      cases k with
      | zero => unfold gl; rw [if_pos s3]; rfl
      | succ k => show ((if isG t w b = true then [b] else []) ++ _)[0]? = _; rw [if_pos s3]; rfl
    · have go : (decide (0 < at_) || (decide (b = []) || !isG t w b)) = true := by
        by_cases h0 : 0 < at_
        · simp [h0]
        · by_cases h1 : b = []
          · simp [h1]
          · cases g : isG t w b with
            | false => simp
            | true => exact absurd ⟨by omega, h1, g⟩ stop
      rw [go, if_pos rfl]
      cases k with
      | zero =>
        exfalso
        unfold gl at h
        split at h
        · rename_i g
          have : at_ = 0 := by simpa using h
          refine stop ⟨this, fun e => ?_, g⟩
          rw [e, isG_nil] at g
          cases g
        · simp at h
      | succ k =>
        have hd : (gl t w (k + 1) b) = (if isG t w b = true then [b] else []) ++ digs.flatMap fun d => gl t w k (b ++ [d]) := rfl
        cases g : isG t w b with
        | true =>
          have nb : b ≠ [] := fun e => by rw [e, isG_nil] at g; cases g
          have pos : 0 < at_ := by
            rcases Nat.eq_zero_or_pos at_ with z | z
            · exact absurd ⟨z, nb, g⟩ stop
            · exact z
          rw [hd, g, if_pos rfl] at h ⊢
          obtain ⟨d, at', dd, e1, e2, e3⟩ := step_ok T w b k (at_ - 1) (by omega) (by omega) (by rw [List.length_append, List.length_singleton] at h; omega)
          obtain ⟨s, x, e4, e5⟩ := nth_loop T w k (b ++ [d]) at' n (by rw [List.length_append, List.length_singleton]; omega) (by omega) e2
          refine ⟨s, x, ?_, ?_⟩
          · have e0 : ((at_ - 1 : Nat) : Int) = (at_ : Int) - 1 := by omega
            have bd : b_nth_1 [.d (tabD t), .d (.str w), .d (.int at_), .d (.str b)] = .ok (.nx [.d (tabD t), .d (.str w), .d (.int at'), .d (.str (b ++ [d]))]) := by
              rw [e0] at e1
              unfold b_nth_1
              simp [is_good_ok, g, nb, e1]
            rw [bd, bind_ok]
            exact e4
          · rw [show ([b] ++ digs.flatMap fun d => gl t w k (b ++ [d]))[at_]? = (digs.flatMap fun d => gl t w k (b ++ [d]))[at_ - 1]? from List.getElem?_append_right (by rw [List.length_singleton]; omega), e3, e5]
        | false =>
          rw [hd, g, if_neg (by decide), List.nil_append] at h ⊢
          obtain ⟨d, at', dd, e1, e2, e3⟩ := step_ok T w b k at_ (by omega) (by omega) h
          obtain ⟨s, x, e4, e5⟩ := nth_loop T w k (b ++ [d]) at' n (by rw [List.length_append, List.length_singleton]; omega) (by omega) e2
          refine ⟨s, x, ?_, by rw [e3, e5]⟩
          have bd : b_nth_1 [.d (tabD t), .d (.str w), .d (.int at_), .d (.str b)] = .ok (.nx [.d (tabD t), .d (.str w), .d (.int at'), .d (.str (b ++ [d]))]) := by
            unfold b_nth_1
            by_cases nb : b = []
            · simp [nb] at e1
              simp [nb, e1]
            · simp [is_good_ok, g, nb, e1]
          rw [bd, bind_ok]
          exact e4
def allG (t : List Rule) (w : List Nat) : List (List Nat) := gl t w 18 []
theorem many_all {t : List Rule} (T : TabN t) (w : List Nat) : f_many [tabD t, .str w] = .ok (.int (allG t w).length) := by
  rw [many_ok t w T.few T.sz, gl_len T w 18 [] (by simp)]
  rfl
theorem nth_ok {t : List Rule} (T : TabN t) (w : List Nat) (at_ : Nat) {s : List Nat} (h : (allG t w)[at_]? = some s) : f_nth [tabD t, .str w, .int at_] = .ok (.str s) := by
  have lt : at_ < (allG t w).length := (List.getElem?_eq_some_iff.mp h).1
  obtain ⟨s', x, e1, e2⟩ := nth_loop T w 18 [] at_ 40 rfl (by omega) lt
  have : s' = s := by
    have e2 : (allG t w)[at_]? = some s' := e2
    rw [h] at e2
    exact (Option.some.inj e2).symm
  subst this
  show (p_nth [.d (tabD t), .d (.str w), .d (.int at_), .no]).bind finF = _
  unfold p_nth
  have m := many_all T w
  rw [seq_nx (ρ' := [.d (tabD t), .d (.str w), .d (.int at_), .no]) (by simp [m, dGe, lt])]
  rw [seq_nx (ρ' := [.d (tabD t), .d (.str w), .d (.int at_), .d (.str [])]) (by simp)]
  rw [seq_nx e1]
  simp
theorem nth_er {t : List Rule} (T : TabN t) (w : List Nat) (at_ : Nat) (h : (allG t w).length ≤ at_) : f_nth [tabD t, .str w, .int at_] = .er 0 := by
  show (p_nth [.d (tabD t), .d (.str w), .d (.int at_), .no]).bind finF = _
  unfold p_nth
  have m := many_all T w
  simp [m, dGe, h]
theorem first_ok {t : List Rule} (T : TabN t) (w : List Nat) (few : Nat) (hf : few ≤ 1000) : f_first_ones [tabD t, .str w, .int few] = .ok (.tup (((allG t w).take few).map .str)) := by
  show (p_first_ones [.d (tabD t), .d (.str w), .d (.int few), .no]).bind finF = _
  unfold p_first_ones
  have m := many_all T w
  obtain ⟨n, hn, hn2⟩ : ∃ n : Nat, (if ((allG t w).length : Int) < few then ((allG t w).length : Int) else few) = n ∧ n = min few (allG t w).length := by
    by_cases l : ((allG t w).length : Int) < few
    · exact ⟨(allG t w).length, by rw [if_pos l], by omega⟩
    · exact ⟨few, by rw [if_neg l], by omega⟩
  have cp : compF (to1 3) yesT (callF 3 f_nth (aCons (vI 0) (aCons (vI 1) (aCons (vI 3) (aNil))))) [3] [.d (tabD t), .d (.str w), .d (.int few), .no] (rngL 0 n) = .ok (((allG t w).take few).map .str) := by
    have e : rngL 0 n = (List.range n).map fun i : Nat => D.int i := by
      unfold rngL
      refine List.map_congr_left fun i _ => ?_
      simp
    rw [e, compF_genm (fun i : Nat => D.int i) (fun i => [.d (tabD t), .d (.str w), .d (.int few), .d (.int i)]) (fun i => .str ((allG t w).getD i [])) (List.range n) (fun _ _ => rfl) fun i hi => ?_]
    · congr 1
      apply List.ext_getElem?
      intro j
      rw [List.getElem?_map, List.getElem?_map]
      by_cases hj : j < n
      · rw [List.getElem?_range hj, List.getElem?_take_of_lt (by omega), List.getElem?_eq_getElem (by omega : j < (allG t w).length)]
        simp [List.getD_eq_getElem?_getD, List.getElem?_eq_getElem (by omega : j < (allG t w).length)]
      · rw [List.getElem?_eq_none (by simp; omega), List.getElem?_eq_none (by rw [List.length_take]; omega)]
        rfl
    · have hi : i < n := List.mem_range.mp hi
      have : (allG t w)[i]? = some ((allG t w).getD i []) := by
        rw [List.getD_eq_getElem?_getD, List.getElem?_eq_getElem (by omega : i < (allG t w).length)]
        rfl
      simp [nth_ok T w i this]
  have r : dRng1 [.int (if ((allG t w).length : Int) < few then ((allG t w).length : Int) else few)] = .ok (rngL 0 n) := by
    rw [hn]
    exact dRng1_ok (by unfold line; omega)
  simp only [retS_eq, calls_eq, aCons_eq, aNil_eq, compV_eq, itR_eq, vI_succ, vI_zero, bind_ok, callF_eq, List.length_cons, List.length_nil, if_true, m, dMin2_eq, r, cp, dTuple_lst, finF_rt]
theorem all_mem {t : List Rule} (T : TabN t) {w s : List Nat} : s ∈ allG t w ↔ Good t w s := by
  unfold allG
  rw [gl_mem, good_iff]
  constructor
  · rintro ⟨g, u, rfl, du, _⟩
    exact ⟨du, g⟩
  · rintro ⟨d, g⟩
    refine ⟨g, s, rfl, d, ?_⟩
    obtain ⟨r, h1, _, h3, _⟩ := isG_iff.mp g
    have := T.sz r (ruleFor_some h1).1
    omega
theorem all_lt (t : List Rule) (w : List Nat) : (allG t w).Pairwise fun x y => x < y := gl_lt 18 []
/-- what is good tells all -/
theorem gl_same {t u : List Rule} {w : List Nat} (h : ∀ s, isG t w s = isG u w s) : ∀ (k : Nat) (b : List Nat), gl t w k b = gl u w k b
  | 0, b => by unfold gl; rw [h]
  | k + 1, b => by
    show (if isG t w b = true then [b] else []) ++ _ = (if isG u w b = true then [b] else []) ++ _
    rw [h]
    congr 2
    funext d
    exact gl_same h k _
end DD

namespace DD
open PySem PySem.Spec PyProof.Rows L2
/-! ### idle rules, in plain form -/
def del (t : List Rule) (p : List Nat) : List Rule := t.filter fun q => !(q.p == p)
theorem del_mem {t : List Rule} {p : List Nat} {q : Rule} : q ∈ del t p ↔ q ∈ t ∧ q.p ≠ p := by
  unfold del
  rw [List.mem_filter]
  simp
theorem del_nd {t : List Rule} (h : PNodup t) (p : List Nat) : PNodup (del t p) := fun a ha b hb e => h a (del_mem.mp ha).1 b (del_mem.mp hb).1 e
theorem del_comm (t : List Rule) (a b : List Nat) : del (del t a) b = del (del t b) a := by
  unfold del
  rw [List.filter_filter, List.filter_filter]
  congr 1
  funext q
  exact Bool.and_comm _ _
def par (t : List Rule) (p : List Nat) : Option Rule := ruleFor (del t p) p
def eff (p : List Nat) : Option Rule → Option (Int × List Nat)
  | none => none
  | some x => if x.s = 0 ∨ x.s < p.length then none else some (x.s, x.w)
def isIdle (t : List Rule) (r : Rule) : Bool := decide (eff r.p (some r) = eff r.p (par t r.p))
theorem foldl_pre {s s' : List Nat} : ∀ (u : List Rule) (b : Option Rule), (∀ q ∈ u, (q.p <+: s ↔ q.p <+: s')) → u.foldl (better s) b = u.foldl (better s') b
  | [], _, _ => rfl
  | q :: u, b, h => by
    have e : better s b q = better s' b q := by
      have : (q.p.isPrefixOf s = true) ↔ (q.p.isPrefixOf s' = true) := by
        rw [List.isPrefixOf_iff_prefix, List.isPrefixOf_iff_prefix]
        exact h q List.mem_cons_self
      unfold better
      by_cases z : q.p.isPrefixOf s = true
      · simp only [z, this.mp z]
      · have z' : ¬ q.p.isPrefixOf s' = true := fun e => z (this.mpr e)
        rw [if_neg (fun g => z g.1), if_neg (fun g => z' g.1)]
    rw [List.foldl_cons, List.foldl_cons, e]
    exact foldl_pre u _ fun x hx => h x (List.mem_cons_of_mem _ hx)
theorem ruleFor_pre {u : List Rule} {s s' : List Nat} (h : ∀ q ∈ u, (q.p <+: s ↔ q.p <+: s')) : ruleFor u s = ruleFor u s' := foldl_pre u none h
theorem del_hit {t : List Rule} {s : List Nat} {r : Rule} (h : ruleFor t s = some r) : ruleFor (del t r.p) s = par t r.p := by
  obtain ⟨h1, h2, h3⟩ := ruleFor_some h
  refine ruleFor_pre fun q hq => ⟨fun z => ?_, fun z => z.trans h2⟩
  exact pre_chain z h2 (h3 q (del_mem.mp hq).1 z)
theorem del_miss {t : List Rule} (nd : PNodup t) {s : List Nat} {r : Rule} (hr : r ∈ t) (h : ruleFor t s ≠ some r) : ruleFor (del t r.p) s = ruleFor t s := by
  cases e : ruleFor t s with
  | none =>
    cases e2 : ruleFor (del t r.p) s with
    | none => rfl
    | some q =>
      obtain ⟨h1, h2, _⟩ := ruleFor_some e2
      exact absurd h2 (ruleFor_none e q (del_mem.mp h1).1)
  | some q =>
    obtain ⟨h1, h2, h3⟩ := ruleFor_some e
    have ne : q.p ≠ r.p := fun z => h (by rw [e, nd q h1 r hr z])
    exact ruleFor_eq (del_nd nd _) (del_mem.mpr ⟨h1, ne⟩) h2 fun x hx hp => h3 x (del_mem.mp hx).1 hp
theorem eff_up {a b : List Nat} (h : a.length ≤ b.length) {x y : Option Rule} (e : eff a x = eff a y) : eff b x = eff b y := by
  have key : ∀ z : Option Rule, eff b z = (eff a z).bind fun v => if v.1 < b.length then none else some v := fun z => by
    cases z with
    | none => rfl
    | some z =>
      unfold eff
      simp only
      by_cases h1 : z.s = 0 ∨ z.s < a.length
      · rw [if_pos h1, if_pos (by omega)]
        rfl
      · rw [if_neg h1]
        by_cases h2 : z.s < b.length
        · rw [if_pos (.inr h2)]
          simp [h2]
        · rw [if_neg (by omega)]
          simp [h2]
  rw [key x, key y, e]
theorem idle_keep {t : List Rule} (nd : PNodup t) {r q : Rule} (hr : r ∈ t) (ir : isIdle t r = true) (hq : q ∈ t) (ne : q.p ≠ r.p) : isIdle (del t r.p) q = isIdle t q := by
  have e : eff q.p (par (del t r.p) q.p) = eff q.p (par t q.p) := by
    unfold par
    rw [del_comm]
    have rv : r ∈ del t q.p := del_mem.mpr ⟨hr, fun e => ne e.symm⟩
    by_cases h : ruleFor (del t q.p) q.p = some r
    · have pr := (ruleFor_some h).2.1
      rw [del_hit h, h]
      have ir : eff r.p (some r) = eff r.p (par t r.p) := of_decide_eq_true ir
      have e2 : par (del t q.p) r.p = par t r.p := by
        unfold par
        rw [del_comm]
        refine ruleFor_in (del_nd (del_nd nd _) _) (fun z hz => ?_) (del_nd nd _)
        rw [del_mem]
        refine ⟨fun h => h.1, fun h => ⟨h, fun e => ?_⟩⟩
        rw [e] at hz
        exact ne (hz.eq_of_length_le pr.length_le)
      rw [e2]
      exact (eff_up pr.length_le ir).symm
    · rw [del_miss (del_nd nd _) rv h]
  unfold isIdle
  rw [e]
theorem isG_eff {t : List Rule} {w s p : List Nat} (h : p.length ≤ s.length) : isG t w s = decide (eff p (ruleFor t s) = some ((s.length : Int), w)) := by
  unfold isG
  cases ruleFor t s with
  | none => rfl
  | some x =>
    by_cases h1 : x.s = 0 ∨ x.s < p.length
    · have e : eff p (some x) = none := if_pos h1
      rw [e]
      show decide (0 < x.s ∧ x.s = s.length ∧ x.w = w) = false
      exact decide_eq_false (by omega)
    · have e : eff p (some x) = some (x.s, x.w) := if_neg h1
      rw [e]
      show decide (0 < x.s ∧ x.s = s.length ∧ x.w = w) = _
      by_cases h2 : x.s = s.length ∧ x.w = w
      · rw [decide_eq_true ⟨by omega, h2⟩, h2.1, h2.2]
        simp
      · rw [decide_eq_false (fun z => h2 z.2), decide_eq_false]
        intro z
        injection z with z
        injection z with z1 z2
        exact h2 ⟨z1, z2⟩
theorem idle_good {t : List Rule} (nd : PNodup t) {r : Rule} (hr : r ∈ t) (ir : isIdle t r = true) (w s : List Nat) : isG (del t r.p) w s = isG t w s := by
  by_cases h : ruleFor t s = some r
  · have pr := (ruleFor_some h).2.1
    have ir : eff r.p (some r) = eff r.p (par t r.p) := of_decide_eq_true ir
    rw [isG_eff (t := t) pr.length_le, isG_eff (t := del t r.p) pr.length_le, del_hit h, h, ir]
  · unfold isG
    rw [del_miss nd hr h]
/-! lean -/
theorem nodup_rev {α : Type} {l : List α} (h : l.Nodup) : l.reverse.Nodup := List.pairwise_reverse.mpr (h.imp fun {a b} n e => n e.symm)
structure Lz (t F : List Rule) : Prop where
  sub : ∀ q ∈ F, q ∈ t
  nd : PNodup F
  idl : ∀ q ∈ F, isIdle F q = isIdle t q
  gd : ∀ w s, isG F w s = isG t w s
theorem Lz.del {t F : List Rule} (L : Lz t F) {r : Rule} (hr : r ∈ F) (ir : isIdle t r = true) : Lz t (del F r.p) := by
  have ir' : isIdle F r = true := by rw [L.idl r hr, ir]
  refine ⟨fun q hq => L.sub q (del_mem.mp hq).1, del_nd L.nd _, fun q hq => ?_, fun w s => ?_⟩
  · obtain ⟨h1, h2⟩ := del_mem.mp hq
    rw [idle_keep L.nd hr ir' h1 h2, L.idl q h1]
  · rw [idle_good L.nd hr ir', L.gd]
def leanF (t : List Rule) : List Rule → List Rule → List Rule
  | [], F => F
  | r :: rs, F => leanF t rs (if isIdle t r = true then del F r.p else F)
theorem leanF_lz {t : List Rule} (nt : PNodup t) : ∀ (rs F : List Rule), Lz t F → (∀ r ∈ rs, r ∈ F) → rs.Nodup → Lz t (leanF t rs F)
  | [], F, L, _, _ => L
  | r :: rs, F, L, h, n => by
    have hr := h r List.mem_cons_self
    have n := List.nodup_cons.mp n
    unfold leanF
    by_cases ir : isIdle t r = true
    · rw [if_pos ir]
      refine leanF_lz nt rs _ (L.del hr ir) (fun q hq => del_mem.mpr ⟨h q (List.mem_cons_of_mem _ hq), fun e => ?_⟩) n.2
      have := L.nd q (h q (List.mem_cons_of_mem _ hq)) r hr e
      exact n.1 (this ▸ hq)
    · rw [if_neg ir]
      exact leanF_lz nt rs F L (fun q hq => h q (List.mem_cons_of_mem _ hq)) n.2
def leanL (t : List Rule) : List Rule := t.filter fun q => !isIdle t q
theorem leanF_eq {t : List Rule} : ∀ (rs F : List Rule), leanF t rs F = F.filter fun q => !(rs.any fun r => r.p == q.p && isIdle t r)
  | [], F => by
    unfold leanF
    exact (List.filter_eq_self.mpr fun _ _ => rfl).symm
  | r :: rs, F => by
    unfold leanF
    rw [leanF_eq rs]
    by_cases ir : isIdle t r = true
    · rw [if_pos ir]
      unfold del
      rw [List.filter_filter]
      congr 1
      funext q
      have : (q.p == r.p) = (r.p == q.p) := by
        by_cases e : q.p = r.p
        · rw [e]
        · rw [beq_eq_false_iff_ne.mpr e, beq_eq_false_iff_ne.mpr fun z => e z.symm]
      rw [List.any_cons, ir, this]
      cases (r.p == q.p) <;> cases (rs.any fun r => r.p == q.p && isIdle t r) <;> rfl
    · rw [if_neg ir]
      congr 1
      funext q
      have ir : isIdle t r = false := by simpa using ir
      rw [List.any_cons, ir]
      simp
theorem lean_rev {t : List Rule} (nt : PNodup t) : leanF t t.reverse t = leanL t := by
  rw [leanF_eq]
  unfold leanL
  refine List.filter_congr fun q hq => ?_
  congr 1
  cases h : isIdle t q with
  | true => exact List.any_eq_true.mpr ⟨q, List.mem_reverse.mpr hq, by simp [h]⟩
  | false =>
    rw [List.any_eq_false]
    intro r hr e
    have hr := List.mem_reverse.mp hr
    simp at e
    have := nt r hr q hq e.1
    rw [this, h] at e
    cases e.2
theorem lz_refl {t : List Rule} (nt : PNodup t) : Lz t t := ⟨fun _ h => h, nt, fun _ _ => rfl, fun _ _ => rfl⟩
theorem lean_lz {t : List Rule} (nt : PNodup t) (n : t.Nodup) : Lz t (leanL t) := by
  rw [← lean_rev nt]
  exact leanF_lz nt _ _ (lz_refl nt) (fun r hr => List.mem_reverse.mp hr) (nodup_rev n)
/-! few tops leave a number -/
theorem nodup_sub {α : Type} [DecidableEq α] : ∀ (l m : List α), l.Nodup → (∀ x ∈ l, x ∈ m) → l.length ≤ m.length
  | [], _, _, _ => Nat.zero_le _
  | x :: l, m, n, h => by
    have n := List.nodup_cons.mp n
    have hx := h x List.mem_cons_self
    have := nodup_sub l (m.erase x) n.2 fun y hy => (List.mem_erase_of_ne (fun e : y = x => n.1 (e ▸ hy))).mpr (h y (List.mem_cons_of_mem _ hy))
    rw [List.length_erase_of_mem hx] at this
    have := List.length_pos_of_mem hx
    rw [List.length_cons]
    omega
theorem cnt_self {t : List Rule} {r : Rule} (T : TabW t) (hl : t.length ≤ 9) (n : Nat) : cnt t r.p n r.p = 0 ↔ n < r.p.length := by
  have pp : pre r.p r.p = true := pre_iff.mpr (List.prefix_refl _)
  rw [cnt_eq T, if_neg (fun z => by rw [pp] at z; cases z.1), if_neg (Nat.lt_irrefl _)]
  by_cases h : n < r.p.length
  · rw [if_pos h]
    exact ⟨fun _ => h, fun _ => rfl⟩
  · rw [if_neg h]
    refine ⟨fun z => ?_, fun z => absurd z h⟩
    exfalso
    have I := tops_inv t r.p
    have : 0 < C (tops t r.p) (n - r.p.length) r.p := by
      rw [C_pos]
      cases n - r.p.length with
      | zero =>
        refine ⟨[], fun _ h => (by cases h), rfl, fun o ho hp => ?_⟩
        rw [List.append_nil] at hp
        obtain ⟨q, _, e, h1, h2⟩ := below_mem.mp (I.sub o ho)
        exact h2 (hp.eq_of_length_le h1.length_le)
      | succ k =>
        obtain ⟨d, dd, hd⟩ : ∃ d, Dig d ∧ ∀ o ∈ tops t r.p, ¬ r.p ++ [d] <+: o := by
          refine Classical.byContradiction fun no => ?_
          have all : ∀ d ∈ digs, d ∈ (below t r.p).map fun o => o.getD r.p.length 0 := fun d hd => by
            refine Classical.byContradiction fun nd => no ⟨d, digs_iff.mp hd, fun o ho hp => nd (List.mem_map.mpr ⟨o, I.sub o ho, ?_⟩)⟩
            obtain ⟨y, rfl⟩ := hp
            simp
          have := nodup_sub digs _ (by unfold digs; decide) all
          rw [List.length_map] at this
          have := below_len t r.p
          simp [digs] at *
          omega
        refine ⟨d :: List.replicate k 48, fun c hc => ?_, by simp, fun o ho hp => ?_⟩
        · rcases List.mem_cons.mp hc with e | e
          · rw [e]; exact dd
          · rw [List.eq_of_mem_replicate e]; decide
        · obtain ⟨q, _, e, h1, h2⟩ := below_mem.mp (I.sub o ho)
          have lt : r.p.length < o.length := by
            rcases Nat.lt_or_ge r.p.length o.length with l | l
            · exact l
            · exact absurd (h1.eq_of_length_le l).symm h2
          refine hd o ho (pre_chain (s := r.p ++ d :: List.replicate k 48) ⟨List.replicate k 48, by simp⟩ hp (by simp; omega))
    omega
/-! the walk -/
theorem parent_loop (td : D) (r : Rule) : ∀ (t : List Rule) (best : Option Rule) (x : Slot),
    ∃ x', forF (to1 3) b_parent_of_1 (t.map ruleD) [.d td, .d (ruleD r), .d (optD best), x] = .ok (.nx [.d td, .d (ruleD r), .d (optD ((del t r.p).foldl (better r.p) best)), x'])
  | [], best, x => ⟨x, rfl⟩
  | q :: t, best, x => by
    by_cases hq : q.p = r.p
    · obtain ⟨x', e⟩ := parent_loop td r t best (.d (ruleD q))
      refine ⟨x', ?_⟩
      have : del (q :: t) r.p = del t r.p := by
        unfold del
        exact List.filter_cons_of_neg (by simp [hq])
      rw [this, List.map_cons, forF_step (ρ1 := [.d td, .d (ruleD r), .d (optD best), .d (ruleD q)]) (ρ2 := [.d td, .d (ruleD r), .d (optD best), .d (ruleD q)]) rfl (.inl ?_), e]
      unfold b_parent_of_1
      simp [ruleD, hq]
    · have dc : del (q :: t) r.p = q :: del t r.p := by
        unfold del
        exact List.filter_cons_of_pos (by simp [hq])
      have hq' : ¬ r.p = q.p := fun e => hq e.symm
      obtain ⟨x', e⟩ := parent_loop td r t (better r.p best q) (.d (ruleD q))
      refine ⟨x', ?_⟩
      rw [dc, List.foldl_cons, List.map_cons, forF_step (ρ1 := [.d td, .d (ruleD r), .d (optD best), .d (ruleD q)]) (ρ2 := [.d td, .d (ruleD r), .d (optD (better r.p best q)), .d (ruleD q)]) rfl (.inl ?_), e]
      unfold b_parent_of_1
      by_cases h : q.p.isPrefixOf r.p = true
      · cases best with
        | none =>
          have hb : better r.p none q = some q := by
            unfold better
            rw [if_pos ⟨h, fun b e => nomatch e⟩]
          rw [hb]
          simp [ruleD, optD, h, hq']
        | some b =>
          by_cases h2 : b.p.length < q.p.length
          · have hb : better r.p (some b) q = some q := by
              unfold better
              rw [if_pos ⟨h, fun b e => by cases e; exact h2⟩]
            rw [hb]
            simp [ruleD, optD, h, hq', h2]
          · have hb : better r.p (some b) q = some b := by
              unfold better
              rw [if_neg fun z => h2 (z.2 b rfl)]
            rw [hb]
            simp [ruleD, optD, h, hq', h2]
      · have hb : better r.p best q = best := by
          unfold better
          rw [if_neg fun z => h z.1]
        rw [hb]
        rw [Bool.not_eq_true] at h
        simp [ruleD, h]
theorem parent_ok (t : List Rule) (r : Rule) : f_parent_of [tabD t, ruleD r] = .ok (optD (par t r.p)) := by
  show (p_parent_of [.d (tabD t), .d (ruleD r), .no, .no]).bind finF = _
  obtain ⟨x', e⟩ := parent_loop (tabD t) r t none .no
  unfold p_parent_of
  rw [seq_nx (ρ' := [.d (tabD t), .d (ruleD r), .d (optD none), .no]) (by simp; rfl)]
  have it : items (tabD t) = .ok (t.map ruleD) := rfl
  rw [seq_nx (by simp only [forS_eq, itVn_eq, vI_zero, noEr_ok', bind_ok, it]; exact e)]
  simp only [retS_eq, vI_succ, vI_zero, bind_ok, finF_rt]
  rfl
def effD : Option (Int × List Nat) → D
  | none => .non
  | some (s, w) => .tup [.int s, .str w]
structure TabI (t : List Rule) : Prop where
  tw : TabW t
  few : t.length ≤ 9
  sz : ∀ r ∈ t, 0 ≤ r.s ∧ r.s ≤ 18
theorem goods_by_ok {t : List Rule} (T : TabI t) (r : Rule) (x : Option Rule) (hx : ∀ z, x = some z → z ∈ t) : f_goods_by [tabD t, .str r.p, optD x] = .ok (effD (eff r.p x)) := by
  show (p_goods_by [.d (tabD t), .d (.str r.p), .d (optD x)]).bind finF = _
  unfold p_goods_by
  cases x with
  | none => simp [optD, eff, effD]
  | some z =>
    obtain ⟨z1, z2⟩ := T.sz z (hx z rfl)
    obtain ⟨n, hn⟩ : ∃ n : Nat, z.s = n := ⟨z.s.toNat, by omega⟩
    have c := count_ok t r.p r.p n (by omega) (by have := T.few; omega)
    have cs := cnt_self (r := r) T.tw T.few n
    have nn : (optD (some z)).isN = false := rfl
    by_cases h0 : z.s = 0
    · simp [optD, ruleD, h0, eff, effD]
    · by_cases h1 : n < r.p.length
      · have c0 := cs.mpr h1
        rw [c0] at c
        have e : eff r.p (some z) = none := by
          unfold eff
          simp only
          rw [if_pos (.inr (by omega))]
        rw [e]
        have hn0 : ¬ n = 0 := by omega
        simp [optD, ruleD, hn, hn0, c, effD]
      · have c0 : ¬ cnt t r.p n r.p = 0 := fun z => h1 (cs.mp z)
        have e : eff r.p (some z) = some (z.s, z.w) := by
          unfold eff
          simp only
          rw [if_neg (by omega)]
        rw [e]
        have hn0 : ¬ n = 0 := by omega
        simp [optD, ruleD, hn, hn0, c, c0, effD]
        rfl
theorem dEq_eff (a b : Option (Int × List Nat)) : dEq (effD a) (effD b) = .ok (.bl (decide (a = b))) := by
  have pl : ∀ a, D.plain (effD a) 60 = true := fun a => by
    cases a with
    | none => rfl
    | some v => simp [effD]
  rw [dEq_ok (pl a) (pl b)]
  congr 2
  cases a with
  | none =>
    cases b with
    | none => rfl
    | some v => rfl
  | some v =>
    cases b with
    | none => rfl
    | some u =>
      obtain ⟨i, x⟩ := v
      obtain ⟨j, y⟩ := u
      show ((i == j) && ((x == y) && true)) = _
      by_cases h1 : i = j
      · by_cases h2 : x = y
        · simp [h1, h2]
        · simp [h1, h2]
      · simp [h1]
theorem par_mem {t : List Rule} {p : List Nat} {z : Rule} (h : par t p = some z) : z ∈ t := (del_mem.mp (ruleFor_some h).1).1
theorem is_idle_ok {t : List Rule} (T : TabI t) {r : Rule} (hr : r ∈ t) : f_is_idle [tabD t, ruleD r] = .ok (.bl (isIdle t r)) := by
  show (p_is_idle [.d (tabD t), .d (ruleD r)]).bind finF = _
  unfold p_is_idle
  have a := goods_by_ok T r (some r) fun z e => by cases e; exact hr
  have b := goods_by_ok T r (par t r.p) fun z e => par_mem e
  have c := parent_ok t r
  have d := dEq_eff (eff r.p (some r)) (eff r.p (par t r.p))
  have ix : dIx (ruleD r) (.int 0) = .ok (.str r.p) := by simp [ruleD]
  have a : f_goods_by [tabD t, .str r.p, ruleD r] = .ok (effD (eff r.p (some r))) := a
  simp [ix, a, b, c, d, isIdle]
theorem idle_ok {t : List Rule} (T : TabI t) : f_idle [tabD t] = .ok (tabD (t.filter (isIdle t))) := by
  show (p_idle [.d (tabD t), .no]).bind finF = _
  unfold p_idle
  have cp : compF (to1 1) (tst (callF 2 f_is_idle (aCons (vI 0) (aCons (vI 1) (aNil))))) (vI 1) [1] [.d (tabD t), .no] (t.map ruleD) = .ok ((t.filter (isIdle t)).map ruleD) := by
    refine compF_gen ruleD (fun r => [.d (tabD t), .d (ruleD r)]) (isIdle t) ruleD t (fun _ _ => rfl) (fun r hr => ?_) (fun r _ _ => by simp)
    simp [is_idle_ok T hr]
  have it : items (tabD t) = .ok (t.map ruleD) := rfl
  simp only [retS_eq, calls_eq, aCons_eq, aNil_eq, compV_eq, itVn_eq, vI_zero, noEr_ok', bind_ok, it, cp, dTuple_lst, finF_rt]
  rfl
theorem eqv_rule (a b : Rule) : D.eqv (ruleD a) (ruleD b) = decide (a = b) := by
  obtain ⟨p, s, w⟩ := a
  obtain ⟨p', s', w'⟩ := b
  show ((p == p') && ((s == s') && ((w == w') && true))) = _
  by_cases h1 : p = p' <;> by_cases h2 : s = s' <;> by_cases h3 : w = w' <;> simp [h1, h2, h3]
theorem dNe_rule (a b : Rule) : dNe (ruleD a) (ruleD b) = .ok (.bl (!decide (a = b))) := by
  rw [dNe_ok (plain_rule a 59) (plain_rule b 59), eqv_rule]
theorem TabI.sub {t F : List Rule} (T : TabI t) (h : ∀ q ∈ F, q ∈ t) (hl : F.length ≤ t.length) : TabI F := ⟨⟨fun r hr => T.tw.dig r (h r hr), fun a ha b hb e => T.tw.nd a (h a ha) b (h b hb) e⟩, Nat.le_trans hl T.few, fun r hr => T.sz r (h r hr)⟩
theorem lean_loop {t : List Rule} (td : D) : ∀ (rs F : List Rule) (x : Slot), TabI F → Lz t F → (∀ r ∈ rs, r ∈ F) → rs.Nodup →
    ∃ x', forF (to1 2) b_lean_1 (rs.map ruleD) [.d td, .d (tabD F), x, .no] = .ok (.nx [.d td, .d (tabD (leanF t rs F)), x', .no])
  | [], F, x, _, _, _, _ => ⟨x, rfl⟩
  | r :: rs, F, x, T, L, h, n => by
    have hr := h r List.mem_cons_self
    have n := List.nodup_cons.mp n
    have id := is_idle_ok T hr
    rw [L.idl r hr] at id
    by_cases ir : isIdle t r = true
    · have hs : ∀ q ∈ rs, q ∈ del F r.p := fun q hq => del_mem.mpr ⟨h q (List.mem_cons_of_mem _ hq), fun e => by
        have := L.nd q (h q (List.mem_cons_of_mem _ hq)) r hr e
        exact n.1 (this ▸ hq)⟩
      obtain ⟨x', e⟩ := lean_loop td rs (del F r.p) (.d (ruleD r)) (T.sub (fun q hq => (del_mem.mp hq).1) (List.length_filter_le _ _)) (L.del hr ir) hs n.2
      refine ⟨x', ?_⟩
      have cp : compF (to1 3) (tst (op2 dNe (vI 3) (vI 2))) (vI 3) [3] [.d td, .d (tabD F), .d (ruleD r), .no] (F.map ruleD) = .ok ((del F r.p).map ruleD) := by
        refine compF_gen ruleD (fun q => [.d td, .d (tabD F), .d (ruleD r), .d (ruleD q)]) (fun q => !(q.p == r.p)) ruleD F (fun _ _ => rfl) (fun q hq => ?_) (fun r _ _ => by simp)
        have : decide (q = r) = (q.p == r.p) := by
          by_cases e : q.p = r.p
          · have := L.nd q hq r hr e
            rw [this]
            simp
          · rw [decide_eq_false (fun z => e (by rw [z])), beq_eq_false_iff_ne.mpr e]
        simp [dNe_rule, this]
      have it : items (tabD F) = .ok (F.map ruleD) := rfl
      have un : leanF t (r :: rs) F = leanF t rs (del F r.p) := by
        show leanF t rs (if isIdle t r = true then del F r.p else F) = _
        rw [if_pos ir]
      rw [un, List.map_cons, forF_step (ρ1 := [.d td, .d (tabD F), .d (ruleD r), .no]) (ρ2 := [.d td, .d (tabD (del F r.p)), .d (ruleD r), .no]) rfl (.inl ?_), e]
      unfold b_lean_1
      rw [ir] at id
      simp only [ifS_eq, tst_eq, callF_eq, aCons_eq, aNil_eq, vI_succ, vI_zero, bind_ok, List.length_cons, List.length_nil, if_true, id, asB_bl, setS_eq, calls_eq, compV_eq, itVn_eq, noEr_ok', it, cp, dTuple_lst, List.set_cons_succ, List.set_cons_zero]
      rfl
    · obtain ⟨x', e⟩ := lean_loop td rs F (.d (ruleD r)) T L (fun q hq => h q (List.mem_cons_of_mem _ hq)) n.2
      refine ⟨x', ?_⟩
      have un : leanF t (r :: rs) F = leanF t rs F := by
        show leanF t rs (if isIdle t r = true then del F r.p else F) = _
        rw [if_neg ir]
      rw [un, List.map_cons, forF_step (ρ1 := [.d td, .d (tabD F), .d (ruleD r), .no]) (ρ2 := [.d td, .d (tabD F), .d (ruleD r), .no]) rfl (.inl ?_), e]
      unfold b_lean_1
      rw [Bool.not_eq_true] at ir
      rw [ir] at id
      simp [id]
theorem lean_ok {t : List Rule} (T : TabI t) (n : t.Nodup) : f_lean [tabD t] = .ok (tabD (leanL t)) := by
  show (p_lean [.d (tabD t), .no, .no, .no]).bind finF = _
  obtain ⟨x', e⟩ := lean_loop (t := t) (tabD t) t.reverse t .no T (lz_refl T.tw.nd) (fun r hr => List.mem_reverse.mp hr) (nodup_rev n)
  rw [lean_rev T.tw.nd] at e
  unfold p_lean
  rw [seq_nx (ρ' := [.d (tabD t), .d (tabD t), .no, .no]) (by simp)]
  have rv : revT (vI 0) [.d (tabD t), .d (tabD t), .no, .no] = .ok (.tup (t.reverse.map ruleD)) := by
    show R.ok (D.tup (t.map ruleD).reverse) = _
    rw [List.map_reverse]
  rw [seq_nx (by simp only [forS_eq, itVn_eq, rv, noEr_ok', bind_ok, items_tup]; exact e)]
  simp
end DD

namespace DD
open PySem PySem.Spec PyProof.Rows L2
/-! ### all numbers of up to three figures -/
def lay : Nat → List (List Nat)
  | 0 => [[]]
  | k + 1 => (lay k).flatMap fun s => digs.map fun c => s ++ [c]
theorem lay_mem : ∀ {k : Nat} {s : List Nat}, s ∈ lay k ↔ Digs s ∧ s.length = k
  | 0, s => by
    show s ∈ [[]] ↔ _
    rw [List.mem_singleton]
    constructor
    · rintro rfl
      exact ⟨fun _ h => (by cases h), rfl⟩
    · rintro ⟨_, h⟩
      exact List.eq_nil_of_length_eq_zero h
  | k + 1, s => by
    show s ∈ (lay k).flatMap (fun s => digs.map fun c => s ++ [c]) ↔ _
    rw [List.mem_flatMap]
    constructor
    · rintro ⟨z, hz, h⟩
      obtain ⟨c, hc, rfl⟩ := List.mem_map.mp h
      obtain ⟨h1, h2⟩ := lay_mem.mp hz
      refine ⟨h1.app fun x hx => ?_, by simp [h2]⟩
      rw [List.mem_singleton.mp hx]
      exact digs_iff.mp hc
    · rintro ⟨h1, h2⟩
      have ne : s ≠ [] := fun e => by rw [e] at h2; cases h2
      refine ⟨s.dropLast, lay_mem.mpr ⟨fun c hc => h1 c (List.dropLast_subset s hc), by rw [List.length_dropLast, h2]; rfl⟩, List.mem_map.mpr ⟨s.getLast ne, digs_iff.mpr (h1 _ (List.getLast_mem ne)), List.dropLast_concat_getLast ne⟩⟩
theorem lay_len : ∀ k, (lay k).length = 10 ^ k
  | 0 => rfl
  | k + 1 => by
    show ((lay k).flatMap fun s => digs.map fun c => s ++ [c]).length = _
    rw [List.length_flatMap, Nat.pow_succ, ← lay_len k]
    generalize lay k = l
    induction l with
    | nil => rfl
    | cons a l ih =>
      rw [List.map_cons, List.sum_cons, ih, List.length_map, List.length_cons]
      have : digs.length = 10 := rfl
      omega
def all3 : List (List Nat) := lay 1 ++ lay 2 ++ lay 3
theorem all3_mem {s : List Nat} : s ∈ all3 ↔ Digs s ∧ 1 ≤ s.length ∧ s.length ≤ 3 := by
  unfold all3
  rw [List.mem_append, List.mem_append, lay_mem, lay_mem, lay_mem]
  constructor
  · rintro ((⟨h1, h2⟩ | ⟨h1, h2⟩) | ⟨h1, h2⟩) <;> exact ⟨h1, by omega, by omega⟩
  · rintro ⟨h1, h2, h3⟩
    have : s.length = 1 ∨ s.length = 2 ∨ s.length = 3 := by omega
    rcases this with e | e | e
    · exact .inl (.inl ⟨h1, e⟩)
    · exact .inl (.inr ⟨h1, e⟩)
    · exact .inr ⟨h1, e⟩
theorem all3_len : all3.length = 1110 := by
  unfold all3
  rw [List.length_append, List.length_append, lay_len, lay_len, lay_len]
theorem extS_run {i : Nat} {a : Env → R D} {ρ : Env} {xs zs : List D} (h1 : ρ[i]? = some (.L xs)) (h2 : a ρ = .ok (.lst zs)) (h3 : xs.length + zs.length ≤ line) : extS i a ρ = .ok (.nx (ρ.set i (.L (xs ++ zs)))) := by
  unfold extS
  rw [h1]
  simp only
  rw [h2, bind_ok]
  simp only
  rw [if_pos h3]
def outL (xs : List (List Nat)) : List (List Nat) := xs.flatMap fun s => digs.map fun c => s ++ [c]
theorem all_in (a f l z : Slot) : ∀ (xs acc : List (List Nat)) (x5 : Slot), (∀ s ∈ xs, s.length ≤ 100) → acc.length + 10 * xs.length ≤ 100000 →
    ∃ x', forF (to1 5) b_l_all_k11_1 (xs.map .str) [a, f, l, z, .L (acc.map .str), x5, .no] = .ok (.nx [a, f, l, z, .L ((acc ++ outL xs).map .str), x', .no])
  | [], acc, x5, _, _ => ⟨x5, by rw [show acc ++ outL [] = acc from List.append_nil acc]; rfl⟩
  | s :: xs, acc, x5, h, hl => by
    rw [List.length_cons] at hl
    have dl : digs.length = 10 := rfl
    obtain ⟨x', e⟩ := all_in a f l z xs (acc ++ digs.map fun c => s ++ [c]) (.d (.str s)) (fun q hq => h q (List.mem_cons_of_mem _ hq)) (by rw [List.length_append, List.length_map]; omega)
    refine ⟨x', ?_⟩
    have sl := h s List.mem_cons_self
    have oc : acc ++ outL (s :: xs) = (acc ++ digs.map fun c => s ++ [c]) ++ outL xs := by
      unfold outL
      rw [List.flatMap_cons, List.append_assoc]
    rw [oc, List.map_cons, forF_step (ρ1 := [a, f, l, z, .L (acc.map .str), .d (.str s), .no]) (ρ2 := [a, f, l, z, .L ((acc ++ digs.map fun c => s ++ [c]).map .str), .d (.str s), .no]) rfl (.inl ?_), e]
    unfold b_l_all_k11_1
    have cp : compF (to1 6) yesT (op2 dAdd (vI 5) (vI 6)) [6] [a, f, l, z, .L (acc.map .str), .d (.str s), .no] (digs.map fun c => .str [c]) = .ok (digs.map fun c => .str (s ++ [c])) := by
      refine compF_genm (fun c : Nat => D.str [c]) (fun c => [a, f, l, z, .L (acc.map .str), .d (.str s), .d (.str [c])]) (fun c => .str (s ++ [c])) digs (fun _ _ => rfl) fun c _ => ?_
      have ad : dAdd (.str s) (.str [c]) = .ok (.str (s ++ [c])) := dAdd_str (by unfold line; simp; omega)
      simp [ad]
    have it : items (.str [48, 49, 50, 51, 52, 53, 54, 55, 56, 57]) = .ok (digs.map fun c => .str [c]) := rfl
    rw [extS_run (xs := acc.map .str) (zs := digs.map fun c => .str (s ++ [c])) rfl (by simp only [compV_eq, itVn_eq, cst_eq, noEr_ok', bind_ok, it, cp]) (by rw [List.length_map, List.length_map]; unfold line; omega), List.map_append, List.map_map]
    rfl
theorem all_out (a z x4 x5 : Slot) (F L : List (List Nat)) (h : ∀ s ∈ L, s.length ≤ 100) (hl : F.length + 10 * L.length ≤ 100000) :
    ∃ x', b_l_all_k11_2 [a, .d (.lst (F.map .str)), .d (.lst (L.map .str)), z, x4, x5, .no] = .ok (.nx [a, .d (.lst ((F ++ outL L).map .str)), .d (.lst ((outL L).map .str)), z, .d (.lst ((outL L).map .str)), x', .no]) := by
  obtain ⟨x', e⟩ := all_in a (.d (.lst (F.map .str))) (.d (.lst (L.map .str))) z L [] x5 h (by simp; omega)
  rw [List.nil_append] at e
  have ol : (outL L).length = 10 * L.length := by
    unfold outL
    rw [List.length_flatMap]
    clear e h hl
    induction L with
    | nil => rfl
    | cons a l ih =>
      rw [List.map_cons, List.sum_cons, ih, List.length_map, List.length_cons]
      have : digs.length = 10 := rfl
      omega
  refine ⟨x', ?_⟩
  unfold b_l_all_k11_2
  rw [seq_nx (ρ' := [a, .d (.lst (F.map .str)), .d (.lst (L.map .str)), z, .L [], x5, .no]) (by unfold newLS; simp [line])]
  rw [seq_nx (ρ' := [a, .d (.lst (F.map .str)), .d (.lst (L.map .str)), z, .L ((outL L).map .str), x', .no]) (by
    simp only [forS_eq, itVn_eq, vI_succ, vI_zero, noEr_ok', bind_ok, items_lst]
    exact e)]
  rw [seq_nx (ρ' := [a, .d (.lst (F.map .str)), .d (.lst ((outL L).map .str)), z, .d (.lst ((outL L).map .str)), x', .no]) (by
    simp only [frzS_eq, frzE, List.getElem?_cons_succ, List.getElem?_cons_zero, List.set_cons_succ, List.set_cons_zero, setS_eq, vI_succ, vI_zero, bind_ok])]
  have ad : dAdd (.lst (F.map .str)) (.lst ((outL L).map .str)) = .ok (.lst ((F ++ outL L).map .str)) := by
    rw [dAdd_lst (by rw [List.length_map, List.length_map]; unfold line; omega), List.map_append]
  simp [ad]
theorem l_all_ok : f_l_all_k11 [.int 3] = .ok (.lst (all3.map .str)) := by
  show (p_l_all_k11 [.d (.int 3), .no, .no, .no, .no, .no, .no]).bind finF = _
  unfold p_l_all_k11
  rw [seq_nx (ρ' := [.d (.int 3), .d (.lst []), .no, .no, .no, .no, .no]) (by simp)]
  rw [seq_nx (ρ' := [.d (.int 3), .d (.lst []), .d (.lst ((lay 0).map .str)), .no, .no, .no, .no]) (by simp [lay])]
  have r3 : dRng1 [.int 3] = .ok (rngL 0 3) := dRng1_ok (n := 3) (by unfold line; omega)
  have r3' : rngL 0 3 = [.int 0, .int 1, .int 2] := rfl
  have sm : ∀ k, k ≤ 100 → ∀ s ∈ lay k, s.length ≤ 100 := fun k hk s hs => by
    have := (lay_mem.mp hs).2
    omega
  obtain ⟨x1, e1⟩ := all_out (.d (.int 3)) (.d (.int 0)) .no .no [] (lay 0) (sm 0 (by omega)) (by rw [lay_len]; decide)
  have e1 : b_l_all_k11_2 [.d (.int 3), .d (.lst []), .d (.lst ((lay 0).map .str)), .d (.int 0), .no, .no, .no] = .ok (.nx [.d (.int 3), .d (.lst ((lay 1).map .str)), .d (.lst ((lay 1).map .str)), .d (.int 0), .d (.lst ((lay 1).map .str)), x1, .no]) := e1
  obtain ⟨x2, e2⟩ := all_out (.d (.int 3)) (.d (.int 1)) (.d (.lst ((lay 1).map .str))) x1 (lay 1) (lay 1) (sm 1 (by omega)) (by rw [lay_len]; decide)
  have e2 : b_l_all_k11_2 [.d (.int 3), .d (.lst ((lay 1).map .str)), .d (.lst ((lay 1).map .str)), .d (.int 1), .d (.lst ((lay 1).map .str)), x1, .no] = .ok (.nx [.d (.int 3), .d (.lst ((lay 1 ++ lay 2).map .str)), .d (.lst ((lay 2).map .str)), .d (.int 1), .d (.lst ((lay 2).map .str)), x2, .no]) := e2
  obtain ⟨x3, e3⟩ := all_out (.d (.int 3)) (.d (.int 2)) (.d (.lst ((lay 2).map .str))) x2 (lay 1 ++ lay 2) (lay 2) (sm 2 (by omega)) (by rw [List.length_append, lay_len, lay_len]; decide)
  have e3 : b_l_all_k11_2 [.d (.int 3), .d (.lst ((lay 1 ++ lay 2).map .str)), .d (.lst ((lay 2).map .str)), .d (.int 2), .d (.lst ((lay 2).map .str)), x2, .no] = .ok (.nx [.d (.int 3), .d (.lst (all3.map .str)), .d (.lst ((lay 3).map .str)), .d (.int 2), .d (.lst ((lay 3).map .str)), x3, .no]) := e3
  rw [seq_nx (ρ' := [.d (.int 3), .d (.lst (all3.map .str)), .d (.lst ((lay 3).map .str)), .d (.int 2), .d (.lst ((lay 3).map .str)), x3, .no]) (by
    simp only [forS_eq, itR_eq, aCons_eq, aNil_eq, vI_zero, bind_ok, r3, r3']
    rw [forF_step (ρ1 := [.d (.int 3), .d (.lst []), .d (.lst ((lay 0).map .str)), .d (.int 0), .no, .no, .no]) rfl (.inl e1)]
    rw [forF_step (ρ1 := [.d (.int 3), .d (.lst ((lay 1).map .str)), .d (.lst ((lay 1).map .str)), .d (.int 1), .d (.lst ((lay 1).map .str)), x1, .no]) rfl (.inl e2)]
    rw [forF_step (ρ1 := [.d (.int 3), .d (.lst ((lay 1 ++ lay 2).map .str)), .d (.lst ((lay 2).map .str)), .d (.int 2), .d (.lst ((lay 2).map .str)), x2, .no]) rfl (.inl e3)]
    rfl)]
  simp
/-! ### the law's own rule_for and says -/
def down : Nat → List D
  | 0 => []
  | n + 1 => .int n :: down n
theorem rngD_down : ∀ n : Nat, rngD ((n : Int) - 1) n = down n
  | 0 => rfl
  | n + 1 => by
    have ih := rngD_down n
    unfold rngD at *
    rw [List.range_succ_eq_map, List.map_cons, List.map_map]
    show _ :: _ = D.int n :: down n
    rw [← ih]
    congr 1
    · congr 1
      omega
    · refine List.map_congr_left fun i _ => ?_
      show D.int _ = D.int _
      congr 1
      simp
      omega
theorem rf_none {T : D} {s : List Nat} {k : Nat} : ∀ (t : List Rule) (x : Slot), (∀ r ∈ t, r.p ≠ s.take k) →
    ∃ x', forF (to1 3) b_l_rule_for_1 (t.map ruleD) [.d T, .d (.str s), .d (.int k), x] = .ok (.nx [.d T, .d (.str s), .d (.int k), x'])
  | [], x, _ => ⟨x, rfl⟩
  | q :: t, x, h => by
    obtain ⟨x', e⟩ := rf_none (T := T) t (.d (ruleD q)) fun r hr => h r (List.mem_cons_of_mem _ hr)
    refine ⟨x', ?_⟩
    rw [List.map_cons, forF_step (ρ1 := [.d T, .d (.str s), .d (.int k), .d (ruleD q)]) (ρ2 := [.d T, .d (.str s), .d (.int k), .d (ruleD q)]) rfl (.inl ?_), e]
    unfold b_l_rule_for_1
    have ne := h q List.mem_cons_self
    simp [cutL_take, ne]
theorem rf_some {T : D} {s : List Nat} {k : Nat} {r : Rule} : ∀ (t : List Rule) (x : Slot), r ∈ t → r.p = s.take k → (∀ q ∈ t, q.p = s.take k → q = r) →
    forF (to1 3) b_l_rule_for_1 (t.map ruleD) [.d T, .d (.str s), .d (.int k), x] = .ok (.rt (ruleD r))
  | [], x, h, _, _ => by cases h
  | q :: t, x, h, e, u => by
    by_cases hq : q.p = s.take k
    · have := u q List.mem_cons_self hq
      subst this
      rw [List.map_cons, forF_cons, to1_eq, bind_ok]
      have bd : b_l_rule_for_1 [.d T, .d (.str s), .d (.int k), .d (ruleD q)] = .ok (.rt (ruleD q)) := by
        unfold b_l_rule_for_1
        simp [cutL_take, hq]
      show (b_l_rule_for_1 [.d T, .d (.str s), .d (.int k), .d (ruleD q)]).bind _ = _
      rw [bd, bind_ok, forO_rt]
    · have hr : r ∈ t := by
        rcases List.mem_cons.mp h with z | z
        · rw [z] at e
          exact absurd e hq
        · exact z
      have ih := rf_some (T := T) t (.d (ruleD q)) hr e fun z hz => u z (List.mem_cons_of_mem _ hz)
      rw [List.map_cons, forF_step (ρ1 := [.d T, .d (.str s), .d (.int k), .d (ruleD q)]) (ρ2 := [.d T, .d (.str s), .d (.int k), .d (ruleD q)]) rfl (.inl ?_), ih]
      unfold b_l_rule_for_1
      simp [cutL_take, hq]
theorem rf_out {t : List Rule} (nd : PNodup t) (s : List Nat) : ∀ (n : Nat) (x2 x3 : Slot), n ≤ s.length + 1 → (∀ r ∈ t, r.p <+: s → r.p.length < n) →
    (∃ r, ruleFor t s = some r ∧ forF (to1 2) b_l_rule_for_2 (down n) [.d (tabD t), .d (.str s), x2, x3] = .ok (.rt (ruleD r))) ∨
    (ruleFor t s = none ∧ ∃ y2 y3, forF (to1 2) b_l_rule_for_2 (down n) [.d (tabD t), .d (.str s), x2, x3] = .ok (.nx [.d (tabD t), .d (.str s), y2, y3]))
  | 0, x2, x3, _, h => by
    right
    refine ⟨?_, x2, x3, rfl⟩
    cases e : ruleFor t s with
    | none => rfl
    | some r =>
      obtain ⟨h1, h2, _⟩ := ruleFor_some e
      exact absurd (h r h1 h2) (Nat.not_lt_zero _)
  | n + 1, x2, x3, hn, h => by
    have it : items (tabD t) = .ok (t.map ruleD) := rfl
    by_cases hx : ∃ r ∈ t, r.p = s.take n
    · left
      obtain ⟨r, hr, e⟩ := hx
      have pr : r.p <+: s := e ▸ List.take_prefix _ _
      have rl : r.p.length = n := by rw [e, List.length_take]; omega
      refine ⟨r, ruleFor_eq nd hr pr fun q hq hp => ?_, ?_⟩
      · have := h q hq hp
        omega
      · show forF _ _ (.int n :: down n) _ = _
        rw [forF_cons, to1_eq, bind_ok]
        have bd : b_l_rule_for_2 [.d (tabD t), .d (.str s), .d (.int n), x3] = .ok (.rt (ruleD r)) := by
          unfold b_l_rule_for_2
          simp only [forS_eq, itVn_eq, vI_zero, noEr_ok', bind_ok, it]
          exact rf_some t x3 hr e fun q hq eq => nd q hq r hr (by rw [eq, e])
        show (b_l_rule_for_2 [.d (tabD t), .d (.str s), .d (.int n), x3]).bind _ = _
        rw [bd, bind_ok, forO_rt]
    · obtain ⟨x', e⟩ := rf_none (T := tabD t) (s := s) (k := n) t x3 fun r hr z => hx ⟨r, hr, z⟩
      have st : forF (to1 2) b_l_rule_for_2 (down (n + 1)) [.d (tabD t), .d (.str s), x2, x3] = forF (to1 2) b_l_rule_for_2 (down n) [.d (tabD t), .d (.str s), .d (.int n), x'] := by
        show forF _ _ (.int n :: down n) _ = _
        rw [forF_step (ρ1 := [.d (tabD t), .d (.str s), .d (.int n), x3]) (ρ2 := [.d (tabD t), .d (.str s), .d (.int n), x']) rfl (.inl ?_)]
        unfold b_l_rule_for_2
        simp only [forS_eq, itVn_eq, vI_zero, noEr_ok', bind_ok, it]
        exact e
      rw [st]
      refine rf_out nd s n (.d (.int n)) x' (by omega) fun r hr hp => ?_
      have l := h r hr hp
      rcases Nat.lt_or_ge r.p.length n with z | z
      · exact z
      · exfalso
        refine hx ⟨r, hr, ?_⟩
        have : r.p.length = n := by omega
        rw [← this]
        exact List.prefix_iff_eq_take.mp hp
theorem l_rule_for_ok {t : List Rule} (nd : PNodup t) (s : List Nat) (hs : s.length ≤ 1000) : f_l_rule_for [tabD t, .str s] = .ok (optD (ruleFor t s)) := by
  show (p_l_rule_for [.d (tabD t), .d (.str s), .no, .no]).bind finF = _
  unfold p_l_rule_for
  have r3 : dRng3 [.int s.length, .int (-1), .int (-1)] = .ok (down (s.length + 1)) := by
    rw [dRng3_ok (by omega) (by omega) (by omega) (by omega), ← rngD_down (s.length + 1)]
    congr 2
    omega
  have hd : ∀ Z, seqS (forS (itR dRng3 (aCons (calls dLen (aCons (vI 1) (aNil))) (aCons (cst (.int (-1))) (aCons (cst (.int (-1))) (aNil))))) (to1 2) (b_l_rule_for_2)) Z [.d (tabD t), .d (.str s), .no, .no] = (forF (to1 2) b_l_rule_for_2 (down (s.length + 1)) [.d (tabD t), .d (.str s), .no, .no]).bind (seqO Z) := fun Z => by
    simp only [seqS_eq, forS_eq, itR_eq, aCons_eq, aNil_eq, calls_eq, vI_succ, vI_zero, cst_eq, bind_ok, dLen_str, r3]
  rw [hd]
  rcases rf_out nd s (s.length + 1) .no .no (Nat.le_refl _) fun r hr hp => Nat.lt_succ_of_le hp.length_le with ⟨r, e1, e2⟩ | ⟨e1, y2, y3, e2⟩
  · rw [e2, e1, bind_ok, seqO_rt]
    rfl
  · rw [e2, e1, bind_ok, seqO_nx]
    rfl
theorem l_says_ok {t : List Rule} (nd : PNodup t) (s : List Nat) (hs : s.length ≤ 1000) : f_l_says [tabD t, .str s] = .ok (saysD t s) := by
  show (p_l_says [.d (tabD t), .d (.str s), .no, .no]).bind finF = _
  unfold p_l_says saysD judge
  have rf := l_rule_for_ok nd s hs
  cases h : ruleFor t s with
  | none =>
    rw [h] at rf
    simp [rf, optD]
  | some r =>
    rw [h] at rf
    simp only
    by_cases h0 : r.s = 0
    · rw [if_pos h0]
      simp [rf, optD, ruleD, h0]
    · rw [if_neg h0]
      by_cases h1 : (s.length : Int) < r.s
      · rw [if_pos h1]
        simp [rf, optD, ruleD, h0, h1]
      · rw [if_neg h1]
        have n1 : ¬ 0 < r.s - s.length := by omega
        by_cases h2 : (s.length : Int) = r.s
        · rw [if_pos h2]
          have : r.s - s.length = 0 := by omega
          simp [rf, optD, ruleD, h0, h1, this]
        · rw [if_neg h2]
          have : ¬ r.s - s.length = 0 := by omega
          simp [rf, optD, ruleD, h0, h1, this]
end DD

namespace DD
open PySem PySem.Spec PyProof.Rows L2
/-! ### the law's own goods -/
def wordOf (t : List Rule) (s : List Nat) : Option (List Nat) := match ruleFor t s with
  | some r => if r.s ≠ 0 ∧ r.s = s.length then some r.w else none
  | none => none
theorem word_iff {t : List Rule} {s w : List Nat} : wordOf t s = some w ↔ isG t w s = true := by
  rw [isG_iff]
  unfold wordOf
  cases ruleFor t s with
  | none => simp
  | some r =>
    simp only
    by_cases h : r.s ≠ 0 ∧ r.s = s.length
    · rw [if_pos h]
      constructor
      · intro e
        injection e with e
        exact ⟨r, rfl, by omega, h.2, e⟩
      · rintro ⟨q, e, _, _, h4⟩
        cases e
        rw [h4]
    · rw [if_neg h]
      constructor
      · intro e
        cases e
      · rintro ⟨q, e, h1, h2, _⟩
        cases e
        exact absurd ⟨by omega, h2⟩ h
def goodsL (t : List Rule) (xs : List (List Nat)) : List (List Nat × List Nat) := xs.filterMap fun s => (wordOf t s).map fun w => (s, w)
theorem goods_mem {t : List Rule} {xs : List (List Nat)} {s w : List Nat} : (s, w) ∈ goodsL t xs ↔ s ∈ xs ∧ wordOf t s = some w := by
  unfold goodsL
  rw [List.mem_filterMap]
  constructor
  · rintro ⟨z, hz, e⟩
    obtain ⟨v, h1, h2⟩ := Option.map_eq_some_iff.mp e
    injection h2 with h2 h3
    subst h2 h3
    exact ⟨hz, h1⟩
  · rintro ⟨h1, h2⟩
    exact ⟨s, h1, by rw [h2]; rfl⟩
def prG (q : List Nat × List Nat) : D := .tup [.str q.1, .str q.2]
theorem says_word (t : List Rule) (s : List Nat) : ∃ k, dIx (saysD t s) (.int 0) = .ok (.str k) ∧ ((k == [103, 111, 111, 100]) = (wordOf t s).isSome) ∧ ∀ w, wordOf t s = some w → dIx (saysD t s) (.int 1) = .ok (.str w) := by
  unfold saysD judge wordOf
  cases h : ruleFor t s with
  | none => exact ⟨_, rfl, rfl, fun _ h => (by cases h)⟩
  | some r =>
    simp only
    by_cases h0 : r.s = 0
    · rw [if_pos h0, if_neg (fun z => z.1 h0)]
      exact ⟨_, rfl, rfl, fun _ h => (by cases h)⟩
    · rw [if_neg h0]
      by_cases h1 : (s.length : Int) < r.s
      · rw [if_pos h1, if_neg (by omega)]
        exact ⟨_, rfl, rfl, fun _ h => (by cases h)⟩
      · rw [if_neg h1]
        by_cases h2 : (s.length : Int) = r.s
        · rw [if_pos h2, if_pos ⟨h0, h2.symm⟩]
          exact ⟨_, rfl, rfl, fun w e => by cases e; rfl⟩
        · rw [if_neg h2, if_neg (by omega)]
          exact ⟨_, rfl, rfl, fun _ h => (by cases h)⟩
theorem goods_loop {t : List Rule} (nd : PNodup t) (E : Slot) : ∀ (xs : List (List Nat)) (acc : List (List Nat × List Nat)) (x3 x4 : Slot), (∀ s ∈ xs, s.length ≤ 1000) → acc.length + xs.length ≤ 100000 →
    ∃ y3 y4, forF (to1 3) b_l_goods_1 (xs.map .str) [.d (tabD t), E, .L (acc.map prG), x3, x4] = .ok (.nx [.d (tabD t), E, .L ((acc ++ goodsL t xs).map prG), y3, y4])
  | [], acc, x3, x4, _, _ => ⟨x3, x4, by rw [show acc ++ goodsL t [] = acc from List.append_nil acc]; rfl⟩
  | s :: xs, acc, x3, x4, h, hl => by
    rw [List.length_cons] at hl
    have sy := l_says_ok nd s (h s List.mem_cons_self)
    obtain ⟨k, k1, k2, k3⟩ := says_word t s
    cases hw : wordOf t s with
    | none =>
      obtain ⟨y3, y4, e⟩ := goods_loop nd E xs acc (.d (.str s)) (.d (saysD t s)) (fun q hq => h q (List.mem_cons_of_mem _ hq)) (by omega)
      refine ⟨y3, y4, ?_⟩
      have gc : goodsL t (s :: xs) = goodsL t xs := by
        unfold goodsL
        exact List.filterMap_cons_none (by rw [hw]; rfl)
      rw [hw] at k2
      have k2 : (k == [103, 111, 111, 100]) = false := k2
      rw [gc, List.map_cons, forF_step (ρ1 := [.d (tabD t), E, .L (acc.map prG), .d (.str s), x4]) (ρ2 := [.d (tabD t), E, .L (acc.map prG), .d (.str s), .d (saysD t s)]) rfl (.inl ?_), e]
      unfold b_l_goods_1
      simp [sy, k1, k2]
    | some w =>
      obtain ⟨y3, y4, e⟩ := goods_loop nd E xs (acc ++ [(s, w)]) (.d (.str s)) (.d (saysD t s)) (fun q hq => h q (List.mem_cons_of_mem _ hq)) (by rw [List.length_append, List.length_singleton]; omega)
      refine ⟨y3, y4, ?_⟩
      have gc : acc ++ goodsL t (s :: xs) = (acc ++ [(s, w)]) ++ goodsL t xs := by
        have : goodsL t (s :: xs) = (s, w) :: goodsL t xs := by
          unfold goodsL
          exact List.filterMap_cons_some (by rw [hw]; rfl)
        rw [this, List.append_assoc]
        rfl
      have k4 := k3 w hw
      rw [hw] at k2
      have k2 : (k == [103, 111, 111, 100]) = true := k2
      rw [gc, List.map_cons, forF_step (ρ1 := [.d (tabD t), E, .L (acc.map prG), .d (.str s), x4]) (ρ2 := [.d (tabD t), E, .L ((acc ++ [(s, w)]).map prG), .d (.str s), .d (saysD t s)]) rfl (.inl ?_), e]
      unfold b_l_goods_1
      rw [seq_nx (ρ' := [.d (tabD t), E, .L (acc.map prG), .d (.str s), .d (saysD t s)]) (by simp [sy])]
      have co : (tst (op2 dEq (op2 dIx (vI 4) (cst (.int 0))) (cst (.str [103, 111, 111, 100])))) [.d (tabD t), E, .L (acc.map prG), .d (.str s), .d (saysD t s)] = .ok true := by simp [k1, k2]
      rw [ifS_eq, co, bind_ok, if_pos rfl, appS_run (xs := acc.map prG) (d := prG (s, w)) rfl (by simp [k4, prG]) (by rw [List.length_map]; unfold line; omega), List.map_append]
      rfl
theorem l_goods_ok {t : List Rule} (nd : PNodup t) (xs : List (List Nat)) (h : ∀ s ∈ xs, s.length ≤ 1000) (hl : xs.length ≤ 100000) : f_l_goods [tabD t, .lst (xs.map .str)] = .ok (.lst ((goodsL t xs).map prG)) := by
  show (p_l_goods [.d (tabD t), .d (.lst (xs.map .str)), .no, .no, .no]).bind finF = _
  obtain ⟨y3, y4, e⟩ := goods_loop nd (.d (.lst (xs.map .str))) xs [] .no .no h (by simpa using hl)
  rw [List.nil_append] at e
  unfold p_l_goods
  rw [seq_nx (ρ' := [.d (tabD t), .d (.lst (xs.map .str)), .L [], .no, .no]) (by unfold newLS; simp [line])]
  rw [seq_nx (by simp only [forS_eq, itVn_eq, vI_succ, vI_zero, noEr_ok', bind_ok, items_lst]; exact e)]
  simp only [frzS_eq, frzE, List.getElem?_cons_succ, List.getElem?_cons_zero, List.set_cons_succ, List.set_cons_zero, retS_eq, vI_succ, vI_zero, bind_ok, finF_rt]
theorem eqvs_prG : ∀ a b : List (List Nat × List Nat), D.eqvs (a.map prG) (b.map prG) = decide (a = b)
  | [], [] => rfl
  | [], b :: l => rfl
  | a :: l, [] => rfl
  | (a1, a2) :: l, (b1, b2) :: m => by
    show (((a1 == b1) && ((a2 == b2) && true)) && D.eqvs (l.map prG) (m.map prG)) = _
    rw [eqvs_prG l m]
    by_cases h1 : a1 = b1 <;> by_cases h2 : a2 = b2 <;> by_cases h3 : l = m <;> simp [h1, h2, h3]
theorem dEq_prG (a b : List (List Nat × List Nat)) : dEq (.lst (a.map prG)) (.lst (b.map prG)) = .ok (.bl (decide (a = b))) := by
  have pl : ∀ a : List (List Nat × List Nat), D.plain (.lst (a.map prG)) 60 = true := fun a => by
    show D.plains (a.map prG) 59 = true
    refine plains_all fun x hx => ?_
    obtain ⟨q, _, rfl⟩ := List.mem_map.mp hx
    simp [prG]
  rw [dEq_ok (pl a) (pl b)]
  congr 2
  exact eqvs_prG a b
/-- a rule is idle just if the same numbers are good without it -/
theorem idle_goods {F : List Rule} (T : TabI F) (s3 : ∀ r ∈ F, r.s ≤ 3) {r : Rule} (hr : r ∈ F) : goodsL (del F r.p) all3 = goodsL F all3 ↔ isIdle F r = true := by
  constructor
  · intro e
    have same : ∀ s ∈ all3, ∀ w, isG (del F r.p) w s = isG F w s := fun s hs w => by
      have : wordOf (del F r.p) s = some w ↔ wordOf F s = some w := by
        have h1 := goods_mem (t := del F r.p) (xs := all3) (s := s) (w := w)
        have h2 := goods_mem (t := F) (xs := all3) (s := s) (w := w)
        rw [e, h2] at h1
        constructor
        · intro z; exact (h1.mpr ⟨hs, z⟩).2
        · intro z; exact (h1.mp ⟨hs, z⟩).2
      rw [word_iff, word_iff] at this
      exact Bool.eq_iff_iff.mpr this
    -- no number tells them apart
    have key : ∀ v : Int × List Nat, (eff r.p (some r) = some v ∨ eff r.p (par F r.p) = some v) → (eff r.p (par F r.p) = some v ↔ eff r.p (some r) = some v) := fun v hv => by
      obtain ⟨x, hx, ex⟩ : ∃ x ∈ F, eff r.p (some x) = some v := by
        rcases hv with z | z
        · exact ⟨r, hr, z⟩
        · cases hp : par F r.p with
          | none => rw [hp] at z; cases z
          | some x => exact ⟨x, par_mem hp, by rw [hp] at z; exact z⟩
      have ex' : (if x.s = 0 ∨ x.s < r.p.length then none else some (x.s, x.w)) = some v := ex
      by_cases hc : x.s = 0 ∨ x.s < r.p.length
      · rw [if_pos hc] at ex'
        cases ex'
      · rw [if_neg hc] at ex'
        injection ex' with ex'
        subst ex'
        have sz := T.sz x hx
        have s3x := s3 x hx
        obtain ⟨n, hn⟩ : ∃ n : Nat, x.s = n := ⟨x.s.toNat, by omega⟩
        have c1 := cnt_self (r := r) T.tw T.few n
        have c2 := cnt_nn (r := r) (n := n) (b := r.p) T.tw
        have pos : 0 < cnt F r.p n r.p := by
          rcases Int.lt_or_eq_of_le c2 with z | z
          · exact z
          · have := c1.mp z.symm
            omega
        obtain ⟨s, d1, d2, d3, d4⟩ := (cnt_pos T.tw hr (T.tw.dig r hr)).mp pos
        have ms : s ∈ all3 := all3_mem.mpr ⟨d1, by omega, by omega⟩
        have sa := same s ms x.w
        rw [isG_eff (t := F) d3.length_le, isG_eff (t := del F r.p) d3.length_le, del_hit d4, d4, d2, ← hn] at sa
        exact decide_eq_decide.mp sa
    refine decide_eq_true ?_
    cases h1 : eff r.p (some r) with
    | some v => exact ((key v (.inl h1)).mpr h1).symm
    | none =>
      cases h2 : eff r.p (par F r.p) with
      | none => rfl
      | some v =>
        have := (key v (.inr h2)).mp h2
        rw [h1] at this
        cases this
  · intro ir
    have : ∀ s, wordOf (del F r.p) s = wordOf F s := fun s => by
      refine Option.ext fun w => ?_
      show wordOf (del F r.p) s = some w ↔ wordOf F s = some w
      rw [word_iff, word_iff, idle_good T.tw.nd hr ir]
    unfold goodsL
    congr 1
    funext s
    rw [this]
end DD

namespace DD
open PySem PySem.Spec PyProof.Rows L2
/-! ### is_number, is_word, is_rule, is_table of any thing -/
def letters : List Nat := [97, 98, 99, 100, 101, 102, 103, 104, 105, 106, 107, 108, 109, 110, 111, 112, 113, 114, 115, 116, 117, 118, 119, 120, 121, 122]
def figB (s : List Nat) : Bool := s.all fun c => decide (c ∈ digs)
def letB (s : List Nat) : Bool := s.all fun c => decide (c ∈ letters)
theorem figB_iff {s : List Nat} : figB s = true ↔ Digs s := by
  unfold figB
  rw [List.all_eq_true]
  constructor
  · intro h c hc
    exact digs_iff.mp (of_decide_eq_true (h c hc))
  · intro h c hc
    exact decide_eq_true (digs_iff.mpr (h c hc))
def areFig (x : D) (lo hi : Int) : Bool := match x with
  | .str s => decide (lo ≤ s.length) && decide ((s.length : Int) ≤ hi) && figB s
  | _ => false
def wordB (x : D) : Bool := match x with
  | .str s => decide (1 ≤ s.length) && decide (s.length ≤ 4) && letB s
  | _ => false
theorem sign_all {i : Nat} {ρ : Env} {a : Env → R D} (L : List Nat) (s : List Nat) (h : ∀ c : Nat, a ((wipeE ρ [i]).set i (.d (.str [c]))) = .ok (.bl (decide (c ∈ L)))) : compF (to1 i) yesT a [i] ρ (s.map fun c => .str [c]) = .ok ((s.map fun c => decide (c ∈ L)).map .bl) := by
  rw [List.map_map]
  exact compF_genm (fun c : Nat => D.str [c]) (fun c => (wipeE ρ [i]).set i (.d (.str [c]))) (fun c => .bl (decide (c ∈ L))) s (fun _ _ => rfl) fun c _ => h c
theorem all_map (s : List Nat) (p : Nat → Bool) : ((s.map p).all id) = s.all p := by
  rw [List.all_map]
  rfl
theorem are_figures_ok (x : D) (lo hi : Int) : f_are_figures [x, .int lo, .int hi] = .ok (.bl (areFig x lo hi)) := by
  show (p_are_figures [.d x, .d (.int lo), .d (.int hi), .no]).bind finF = _
  unfold p_are_figures
  cases x with
  | str s =>
    have cp := sign_all (i := 3) (ρ := [.d (.str s), .d (.int lo), .d (.int hi), .no]) (a := op2 dIn (vI 3) (cst (.str [48, 49, 50, 51, 52, 53, 54, 55, 56, 57]))) digs s fun c => rfl
    have isa : isaV .str (vI 0) [.d (.str s), .d (.int lo), .d (.int hi), .no] = .ok (.bl true) := rfl
    by_cases h1 : lo ≤ s.length
    · by_cases h2 : (s.length : Int) ≤ hi
      · simp only [retS_eq, andV_eq, isa, bind_ok, asB_bl, if_true, chn_eq, vI_succ, vI_zero, calls_eq, aCons_eq, aNil_eq, dLen_str, dCmp_int, h1, h2, decide_true, compV_eq, itVn_eq, noEr_ok', items_str, cp, dAll_bls, all_map, finF_rt, areFig, Bool.true_and]
        rfl
      · simp [isa, h1, h2, areFig]
    · simp [isa, h1, areFig]
  | _ => rfl
theorem is_number_ok (x : D) : f_is_number [x] = .ok (.bl (areFig x 1 12)) := by
  show (p_is_number [.d x]).bind finF = _
  unfold p_is_number
  simp [are_figures_ok]
theorem is_word_ok (x : D) : f_is_word [x] = .ok (.bl (wordB x)) := by
  show (p_is_word [.d x, .no]).bind finF = _
  unfold p_is_word
  cases x with
  | str s =>
    have cp := sign_all (i := 1) (ρ := [.d (.str s), .no]) (a := op2 dIn (vI 1) (cst (.str [97, 98, 99, 100, 101, 102, 103, 104, 105, 106, 107, 108, 109, 110, 111, 112, 113, 114, 115, 116, 117, 118, 119, 120, 121, 122]))) letters s fun c => rfl
    have isa : isaV .str (vI 0) [.d (.str s), .no] = .ok (.bl true) := rfl
    by_cases h1 : (1 : Int) ≤ s.length
    · by_cases h2 : (s.length : Int) ≤ 4
      · have h1' : 1 ≤ s.length := by omega
        have h2' : s.length ≤ 4 := by omega
        simp only [retS_eq, andV_eq, isa, bind_ok, asB_bl, if_true, chn_eq, vI_succ, vI_zero, calls_eq, aCons_eq, aNil_eq, cst_eq, dLen_str, dCmp_int, h1, h2, decide_true, compV_eq, itVn_eq, noEr_ok', items_str, cp, dAll_bls, all_map, finF_rt, wordB, h1', h2', Bool.true_and]
        rfl
      · have h2' : ¬ s.length ≤ 4 := by omega
        simp [isa, h1, h2, wordB, h2']
    · have h1' : ¬ 1 ≤ s.length := by omega
      simp [isa, h1, wordB, h1']
  | _ => rfl
def isRuleB : D → Bool
  | .tup [.str p, .int s, .str w] => decide (p.length ≤ 12) && figB p && (if s = 0 then w == [] else decide ((1 : Int) ≤ s) && decide ((p.length : Int) ≤ s) && decide (s ≤ 12) && wordB (.str w))
  | _ => false
theorem is_rule_ok (x : D) : f_is_rule [x] = .ok (.bl (isRuleB x)) := by
  show (p_is_rule [.d x]).bind finF = _
  unfold p_is_rule
  have af := are_figures_ok
  cases x with
  | tup xs =>
    have isa : isaV .tuple (vI 0) [.d (.tup xs)] = .ok (.bl true) := rfl
    match xs with
    | [] => rfl
    | [a] => simp [isa, isRuleB]
    | [a, b] => simp [isa, isRuleB]
    | a :: b :: c :: d :: r =>
      have ne : ¬ ((r.length : Int) + 1 + 1 + 1 + 1 = 3) := by omega
      simp [isa, ne, isRuleB]
    | [a, b, c] =>
      cases a with
      | str p =>
        by_cases hf : areFig (.str p) 0 12 = true
        · have hp : (decide (p.length ≤ 12) && figB p) = true := by
            have h : (decide ((0 : Int) ≤ p.length) && decide ((p.length : Int) ≤ 12) && figB p) = true := hf
            simp only [Bool.and_eq_true, decide_eq_true_eq] at h ⊢
            exact ⟨by omega, h.2⟩
          cases b with
          | int s =>
            have i1 : ∀ c : D, isaV .int (op2 dIx (vI 0) (cst (.int 1))) [.d (.tup [.str p, .int s, c])] = .ok (.bl true) := fun c => by simp [isaV, isA]
            have i2 : ∀ c : D, isaV .bool (op2 dIx (vI 0) (cst (.int 1))) [.d (.tup [.str p, .int s, c])] = .ok (.bl false) := fun c => by simp [isaV, isA]
            cases c with
            | str w =>
              have i3 : isaV .str (op2 dIx (vI 0) (cst (.int 2))) [.d (.tup [.str p, .int s, .str w])] = .ok (.bl true) := by simp [isaV, isA]
              by_cases h0 : s = 0
              · subst h0
                simp [isa, af, hf, i1, i2, i3, isRuleB, hp]
              · have iw := is_word_ok (.str w)
                have mx : (1 : Int) ≤ s ∧ (p.length : Int) ≤ s ↔ (if (p.length : Int) > 1 then (p.length : Int) else 1) ≤ s := by split <;> omega
                have hd : decide ((if (p.length : Int) > 1 then (p.length : Int) else 1) ≤ s) = (decide ((1 : Int) ≤ s) && decide ((p.length : Int) ≤ s)) := by
                  rw [← Bool.decide_and]
                  exact decide_eq_decide.mpr mx.symm
                have rb : isRuleB (.tup [.str p, .int s, .str w]) = (decide ((if (p.length : Int) > 1 then (p.length : Int) else 1) ≤ s) && decide (s ≤ 12) && wordB (.str w)) := by
                  show ((decide (p.length ≤ 12) && figB p) && (if s = 0 then w == [] else decide ((1 : Int) ≤ s) && decide ((p.length : Int) ≤ s) && decide (s ≤ 12) && wordB (.str w))) = _
                  rw [hp, hd, if_neg h0]
                  simp
                rw [rb]
                by_cases h1 : (if (p.length : Int) > 1 then (p.length : Int) else 1) ≤ s
                · by_cases h2 : s ≤ 12
                  · simp [isa, af, hf, i1, i2, i3, h0, h1, h2, iw]
                  · simp [isa, af, hf, i1, i2, i3, h0, h1, h2]
                · simp [isa, af, hf, i1, i2, i3, h0, h1]
            | _ => simp [isa, af, hf, i1, i2, isaV, isA, isRuleB]
          | _ => simp [isa, af, hf, isaV, isA, isRuleB]
        · have hf : areFig (.str p) 0 12 = false := by simpa using hf
          have rb : isRuleB (.tup [.str p, b, c]) = false := by
            have h : (decide ((0 : Int) ≤ p.length) && decide ((p.length : Int) ≤ 12) && figB p) = false := hf
            have hp : (decide (p.length ≤ 12) && figB p) = false := by
              cases hq : (decide (p.length ≤ 12) && figB p) with
              | false => rfl
              | true =>
                simp only [Bool.and_eq_true, decide_eq_true_eq] at hq
                have : (decide ((0 : Int) ≤ p.length) && decide ((p.length : Int) ≤ 12) && figB p) = true := by
                  simp only [Bool.and_eq_true, decide_eq_true_eq]
                  exact ⟨⟨by omega, by omega⟩, hq.2⟩
                rw [h] at this
                cases this
            unfold isRuleB
            split
            · rename_i e
              cases e
              rw [hp]
              rfl
            · rfl
          simp [isa, af, hf, rb]
      | _ => simp [isa, af, areFig, isRuleB]
  | _ => rfl
structure WfR (r : Rule) : Prop where
  dig : Digs r.p
  len : r.p.length ≤ 12
  body : (r.s = 0 ∧ r.w = []) ∨ (1 ≤ r.s ∧ (r.p.length : Int) ≤ r.s ∧ r.s ≤ 12 ∧ wordB (.str r.w) = true)
theorem isRule_iff {r : Rule} : isRuleB (ruleD r) = true ↔ WfR r := by
  show ((decide (r.p.length ≤ 12) && figB r.p) && (if r.s = 0 then r.w == [] else decide ((1 : Int) ≤ r.s) && decide ((r.p.length : Int) ≤ r.s) && decide (r.s ≤ 12) && wordB (.str r.w))) = true ↔ _
  by_cases h0 : r.s = 0
  · rw [if_pos h0]
    simp only [Bool.and_eq_true, decide_eq_true_eq, beq_iff_eq, figB_iff]
    exact ⟨fun ⟨⟨a, b⟩, c⟩ => ⟨b, a, .inl ⟨h0, c⟩⟩, fun h => ⟨⟨h.len, h.dig⟩, by rcases h.body with b | b; exact b.2; omega⟩⟩
  · rw [if_neg h0]
    simp only [Bool.and_eq_true, decide_eq_true_eq, figB_iff]
    exact ⟨fun ⟨⟨a, b⟩, ⟨⟨c, d⟩, e⟩, f⟩ => ⟨b, a, .inr ⟨c, d, e, f⟩⟩, fun h => ⟨⟨h.len, h.dig⟩, by
      rcases h.body with b | b
      · exact absurd b.1 h0
      · exact ⟨⟨⟨b.1, b.2.1⟩, b.2.2.1⟩, b.2.2.2⟩⟩⟩
theorem isRule_is {x : D} (h : isRuleB x = true) : ∃ r, x = ruleD r ∧ WfR r := by
  unfold isRuleB at h
  split at h
  · rename_i p s w
    exact ⟨⟨p, s, w⟩, rfl, isRule_iff.mp (by unfold ruleD isRuleB; exact h)⟩
  · cases h
/-! tables -/
def adjB : List Rule → Bool
  | a :: b :: r => decide (a.p < b.p) && adjB (b :: r)
  | _ => true
theorem adj_iff : ∀ {t : List Rule}, adjB t = true ↔ PSort t
  | [] => by simp [adjB]
  | [a] => by simp [adjB]
  | a :: b :: r => by
    have ih := adj_iff (t := b :: r)
    show (decide (a.p < b.p) && adjB (b :: r)) = true ↔ _
    rw [Bool.and_eq_true, decide_eq_true_eq, ih]
    constructor
    · rintro ⟨h1, h2⟩
      refine List.pairwise_cons.mpr ⟨fun q hq => ?_, h2⟩
      rcases List.mem_cons.mp hq with e | e
      · rw [e]; exact h1
      · exact List.lt_trans h1 ((List.pairwise_cons.mp h2).1 q e)
    · intro h
      have h := List.pairwise_cons.mp h
      exact ⟨h.1 b List.mem_cons_self, h.2⟩
theorem cutL_init {α : Type} (xs : List α) : cutL xs none (some (-1)) = xs.dropLast := by
  unfold cutL HT.sIx
  rw [List.dropLast_eq_take]
  cases xs with
  | nil => rfl
  | cons a r =>
    simp
    congr 1
    omega
theorem cutL_tail {α : Type} (xs : List α) : cutL xs (some 1) none = xs.tail := by
  have := cutL_drop xs 1
  rw [List.drop_one] at this
  exact this
/-- neighbours, each pair told -/
def nbr {α : Type} : List α → List (α × α)
  | a :: b :: r => (a, b) :: nbr (b :: r)
  | _ => []
theorem pairs_nbr {α : Type} (f : α → D) : ∀ t : List α, pairs ((t.map f).dropLast) ((t.map f).tail) = (nbr t).map fun q => .tup [f q.1, f q.2]
  | [] => rfl
  | [a] => rfl
  | a :: b :: r => by
    have ih := pairs_nbr f (b :: r)
    show pairs (f a :: ((b :: r).map f).dropLast) (f b :: ((b :: r).map f).tail) = .tup [f a, f b] :: (nbr (b :: r)).map fun q => .tup [f q.1, f q.2]
    rw [← ih]
    rfl
theorem adj_nbr : ∀ t : List Rule, ((nbr t).map fun q => decide (q.1.p < q.2.p)).all id = adjB t
  | [] => rfl
  | [a] => rfl
  | a :: b :: r => by
    have ih := adj_nbr (b :: r)
    show (decide (a.p < b.p) && ((nbr (b :: r)).map fun q => decide (q.1.p < q.2.p)).all id) = _
    rw [ih]
    rfl
def isTabB : D → Bool
  | .tup xs => decide (xs.length ≤ 30) && xs.all isRuleB && adjB (xs.filterMap fun x => match x with
    | .tup [.str p, .int s, .str w] => some ⟨p, s, w⟩
    | _ => none)
  | _ => false
theorem filter_rules (t : List Rule) : ((t.map ruleD).filterMap fun x => match x with
    | .tup [.str p, .int s, .str w] => some (⟨p, s, w⟩ : Rule)
    | _ => none) = t := by
  induction t with
  | nil => rfl
  | cons r t ih =>
    rw [List.map_cons, List.filterMap_cons]
    show r :: _ = _
    rw [ih]
theorem all_rules : ∀ {xs : List D}, xs.all isRuleB = true → ∃ t : List Rule, xs = t.map ruleD ∧ ∀ r ∈ t, WfR r
  | [], _ => ⟨[], rfl, fun _ h => by cases h⟩
  | x :: xs, h => by
    rw [List.all_cons, Bool.and_eq_true] at h
    obtain ⟨r, rfl, h1⟩ := isRule_is h.1
    obtain ⟨t, rfl, h2⟩ := all_rules h.2
    exact ⟨r :: t, rfl, fun q hq => by
      rcases List.mem_cons.mp hq with e | e
      · rw [e]; exact h1
      · exact h2 q e⟩
structure WfT (t : List Rule) : Prop where
  ok : ∀ r ∈ t, WfR r
  len : t.length ≤ 30
  ord : PSort t
theorem isTab_iff {t : List Rule} : isTabB (tabD t) = true ↔ WfT t := by
  unfold isTabB tabD
  simp only [filter_rules, Bool.and_eq_true, decide_eq_true_eq, List.length_map, adj_iff, List.all_map, List.all_eq_true]
  constructor
  · rintro ⟨⟨h1, h2⟩, h3⟩
    exact ⟨fun r hr => isRule_iff.mp (h2 r hr), h1, h3⟩
  · intro h
    exact ⟨⟨h.len, fun r hr => isRule_iff.mpr (h.ok r hr)⟩, h.ord⟩
theorem isTab_is {x : D} (h : isTabB x = true) : ∃ t, x = tabD t ∧ WfT t := by
  unfold isTabB at h
  split at h
  · rename_i xs
    have h2 := h
    rw [Bool.and_eq_true, Bool.and_eq_true] at h
    obtain ⟨t, rfl, _⟩ := all_rules h.1.2
    exact ⟨t, rfl, isTab_iff.mp (by unfold isTabB tabD; exact h2)⟩
  · cases h
theorem is_table_ok (x : D) : f_is_table [x] = .ok (.bl (isTabB x)) := by
  show (p_is_table [.d x, .no, .no, .no]).bind finF = _
  unfold p_is_table
  cases x with
  | tup xs =>
    have isa : isaV .tuple (vI 0) [.d (.tup xs), .no, .no, .no] = .ok (.bl true) := rfl
    by_cases hl : xs.length ≤ 30
    · have hl' : ¬ (30 : Int) < xs.length := by omega
      have cp : compF (to1 1) yesT (callF 1 f_is_rule (aCons (vI 1) aNil)) [1] [.d (.tup xs), .no, .no, .no] xs = .ok ((xs.map isRuleB).map .bl) := by
        have := compF_genm (tgt := to1 1) (el := callF 1 f_is_rule (aCons (vI 1) aNil)) (vs := [1]) (ρ := [.d (.tup xs), .no, .no, .no]) id (fun x => [.d (.tup xs), .d x, .no, .no]) (fun x => .bl (isRuleB x)) xs (fun _ _ => rfl) (fun x _ => by simp [is_rule_ok])
        rw [List.map_id] at this
        rw [this, List.map_map]
        rfl
      have al : ((xs.map isRuleB).all id) = xs.all isRuleB := by rw [List.all_map]; rfl
      by_cases ha : xs.all isRuleB = true
      · obtain ⟨t, rfl, hw⟩ := all_rules ha
        have st : (ifS (orT (notT (tst (isaV .tuple (vI 0)))) (orT (tst (op2 dGt (calls dLen (aCons (vI 0) (aNil))) (cst (.int 30)))) (notT (tst (calls dAll (aCons (compV (itVn (vI 0)) (to1 1) (yesT) (callF 1 f_is_rule (aCons (vI 1) (aNil))) [1]) (aNil))))))) (retS (cst (.bl false))) (skipS)) [.d (.tup (t.map ruleD)), .no, .no, .no] = .ok (.nx [.d (.tup (t.map ruleD)), .no, .no, .no]) := by
          simp only [ifS_eq, orT_eq, notT_eq, tst_eq, isa, bind_ok, asB_bl, Bool.not_true, Bool.false_eq_true, if_false, op2_eq, calls_eq, aCons_eq, aNil_eq, vI_succ, vI_zero, cst_eq, dLen_tup, dCmp_int, hl', decide_false, compV_eq, itVn_eq, noEr_ok', items_tup, cp, dAll_bls, al, ha, skipS_eq]
        rw [seq_nx st]
        have zp : dZip [.tup ((t.map ruleD).dropLast), .tup ((t.map ruleD).tail)] = .ok ((nbr t).map fun q => .tup [ruleD q.1, ruleD q.2]) := by
          show R.ok (pairs _ _) = _
          rw [pairs_nbr]
        have cp2 : compF (toN [2, 3]) yesT (op2 dLt (op2 dIx (vI 2) (cst (.int 0))) (op2 dIx (vI 3) (cst (.int 0)))) [2, 3] [.d (.tup (t.map ruleD)), .no, .no, .no] ((nbr t).map fun q => .tup [ruleD q.1, ruleD q.2]) = .ok (((nbr t).map fun q => decide (q.1.p < q.2.p)).map .bl) := by
          rw [List.map_map]
          exact compF_genm (fun q : Rule × Rule => D.tup [ruleD q.1, ruleD q.2]) (fun q => [.d (.tup (t.map ruleD)), .no, .d (ruleD q.1), .d (ruleD q.2)]) (fun q => .bl (decide (q.1.p < q.2.p))) (nbr t) (fun _ _ => rfl) fun q _ => by simp
        have rb : isTabB (.tup (t.map ruleD)) = adjB t := by
          unfold isTabB
          simp only [filter_rules, ha, decide_eq_true hl, Bool.true_and]
        rw [rb]
        simp only [retS_eq, calls_eq, aCons_eq, aNil_eq, compV_eq, itR_eq, slcV_eq, vI_zero, bind_ok, oNo_eq, oSome_eq, cst_eq, asI_int, dCut_tup, cutL_init, cutL_tail, zp, cp2, dAll_bls, adj_nbr, finF_rt]
      · have ha : xs.all isRuleB = false := by simpa using ha
        have rb : isTabB (.tup xs) = false := by
          unfold isTabB
          simp only [ha, Bool.and_false, Bool.false_and]
        rw [rb]
        simp only [seqS_eq, ifS_eq, orT_eq, notT_eq, tst_eq, isa, bind_ok, asB_bl, Bool.not_true, Bool.false_eq_true, if_false, op2_eq, calls_eq, aCons_eq, aNil_eq, vI_succ, vI_zero, cst_eq, dLen_tup, dCmp_int, hl', decide_false, compV_eq, itVn_eq, noEr_ok', items_tup, cp, dAll_bls, al, ha, Bool.not_false, if_true, retS_eq, seqO_rt, finF_rt]
    · have hl' : (30 : Int) < xs.length := by omega
      have rb : isTabB (.tup xs) = false := by
        unfold isTabB
        simp only [decide_eq_false hl, Bool.false_and]
      rw [rb]
      simp [isa, hl']
  | _ => rfl
theorem TabOk.wf {t : List Rule} {m : Nat} (T : TabOk t m) (hm : m ≤ 30) : WfT t := by
  refine ⟨fun r hr => ?_, Nat.le_trans T.len hm, T.ord⟩
  have R := T.ok r hr
  refine ⟨R.dig, by have := R.len; omega, ?_⟩
  rcases R.body with b | b
  · exact .inl b
  · have : ∀ w ∈ words4, wordB (.str w) = true := by decide
    exact .inr ⟨b.1, b.2.2.1, b.2.1, this _ b.2.2.2⟩
end DD

namespace DD
open PySem PySem.Spec PyProof.Rows L2
/-! ### drawn samples -/
abbrev Pair := List Nat × Option (List Nat)
def optW : Option (List Nat) → D
  | none => .non
  | some w => .str w
def pairS (q : Pair) : D := .tup [.str q.1, optW q.2]
def smpD (q : List Pair) : D := .tup (q.map pairS)
def encS (q : Pair) : List Nat × D := (q.1, optW q.2)
def sput (qs : List Pair) (q : Pair) : List Pair := if (qs.any fun z => decide (z.1 = q.1)) = true then qs.map (fun z => if z.1 = q.1 then q else z) else qs ++ [q]
theorem kPut_encS (qs : List Pair) (q : Pair) : kPut (qs.map encS) q.1 (optW q.2) = (sput qs q).map encS := by
  have e : ((qs.map encS).any fun kv => decide (kv.1 = q.1)) = (qs.any fun z => decide (z.1 = q.1)) := by
    rw [List.any_map]
    rfl
  unfold kPut sput
  rw [e]
  split
  · rw [List.map_map, List.map_map]
    refine List.map_congr_left fun z _ => ?_
    by_cases h : z.1 = q.1
    · have e1 : (if z.1 = q.1 then q else z) = q := if_pos h
      have e2 : (if (encS z).1 = q.1 then ((encS z).1, optW q.2) else encS z) = ((encS z).1, optW q.2) := if_pos h
      simp only [Function.comp, e1, e2]
      show (z.1, optW q.2) = (q.1, optW q.2)
      rw [h]
    · have e1 : (if z.1 = q.1 then q else z) = z := if_neg h
      have e2 : (if (encS z).1 = q.1 then ((encS z).1, optW q.2) else encS z) = encS z := if_neg h
      simp only [Function.comp, e1, e2]
  · rw [List.map_append]
    rfl
structure PairOk (q : Pair) : Prop where
  dig : Digs q.1
  pos : 1 ≤ q.1.length
  len : q.1.length ≤ 5
  wrd : q.2 ∈ [none, some [97], some [98], some [99, 100]]
structure BookOk (qs : List Pair) : Prop where
  nd : (qs.map (·.1)).Nodup
  ok : ∀ q ∈ qs, PairOk q
theorem BookOk.put {qs : List Pair} {q : Pair} (h : BookOk qs) (hq : PairOk q) : BookOk (sput qs q) ∧ (sput qs q).length ≤ qs.length + 1 := by
  unfold sput
  split
  · refine ⟨⟨?_, fun z hz => ?_⟩, by rw [List.length_map]; omega⟩
    · have : (qs.map (fun z => if z.1 = q.1 then q else z)).map (·.1) = qs.map (·.1) := by
        rw [List.map_map]
        refine List.map_congr_left fun z _ => ?_
        simp only [Function.comp]
        split
        · rename_i e; exact e.symm
        · rfl
      rw [this]
      exact h.nd
    · obtain ⟨y, hy, rfl⟩ := List.mem_map.mp hz
      split
      · exact hq
      · exact h.ok y hy
  · rename_i c
    refine ⟨⟨?_, fun z hz => ?_⟩, by simp⟩
    · rw [List.map_append]
      refine List.pairwise_append.mpr ⟨h.nd, by simp, fun x hx y hy e => ?_⟩
      have : y = q.1 := by simpa using hy
      obtain ⟨z, hz, rfl⟩ := List.mem_map.mp hx
      exact c (List.any_eq_true.mpr ⟨z, hz, decide_eq_true (e.trans this)⟩)
    · rcases List.mem_append.mp hz with e | e
      · exact h.ok z e
      · rw [List.mem_singleton.mp e]
        exact hq
def sget (qs : List Pair) (k : List Nat) : Pair := (qs.find? fun z => decide (z.1 = k)).getD ([], none)
theorem kGet_encS (qs : List Pair) (k : List Nat) (h : k ∈ qs.map (·.1)) : kGet (qs.map encS) k = some (optW (sget qs k).2) ∧ sget qs k ∈ qs ∧ (sget qs k).1 = k := by
  induction qs with
  | nil => cases h
  | cons q qs ih =>
    unfold kGet sget
    by_cases e : q.1 = k
    · rw [List.map_cons, List.find?_cons_of_pos (by simp [encS, e]), List.find?_cons_of_pos (by simp [e])]
      exact ⟨rfl, List.mem_cons_self, e⟩
    · have hk : k ∈ qs.map (·.1) := by
        rcases List.mem_cons.mp h with z | z
        · exact absurd z.symm e
        · exact z
      obtain ⟨h1, h2, h3⟩ := ih hk
      rw [List.map_cons, List.find?_cons_of_neg (by simp [encS, e]), List.find?_cons_of_neg (by simp [e])]
      exact ⟨h1, List.mem_cons_of_mem _ h2, h3⟩
structure SmpOk (q : List Pair) (m : Nat) : Prop where
  ok : ∀ p ∈ q, PairOk p
  len : q.length ≤ m
  ord : q.Pairwise fun a b => a.1 < b.1
theorem smp_of {qs : List Pair} (h : BookOk qs) : SmpOk ((sortL (qs.map (·.1))).map (sget qs)) qs.length := by
  have mem : ∀ k ∈ sortL (qs.map (·.1)), k ∈ qs.map (·.1) := fun k hk => (sortL_perm _).mem_iff.mp hk
  refine ⟨fun p hp => ?_, ?_, ?_⟩
  · obtain ⟨k, hk, rfl⟩ := List.mem_map.mp hp
    exact h.ok _ (kGet_encS qs k (mem k hk)).2.1
  · rw [List.length_map, (sortL_perm _).length_eq, List.length_map]
    exact Nat.le_refl _
  · refine List.pairwise_map.mpr ?_
    have so := slt_of (sortL_sorted (qs.map (·.1))) ((sortL_perm (qs.map (·.1))).symm.nodup h.nd)
    have key : ∀ l : List (List Nat), (∀ k ∈ l, k ∈ qs.map (·.1)) → l.Pairwise (fun a b => a < b) → l.Pairwise fun a b => (sget qs a).1 < (sget qs b).1 := fun l => by
      induction l with
      | nil => intro _ _; exact List.Pairwise.nil
      | cons a l ih =>
        intro hm hp
        have hp := List.pairwise_cons.mp hp
        refine List.pairwise_cons.mpr ⟨fun b hb => ?_, ih (fun k hk => hm k (List.mem_cons_of_mem _ hk)) hp.2⟩
        rw [(kGet_encS qs a (hm a List.mem_cons_self)).2.2, (kGet_encS qs b (hm b (List.mem_cons_of_mem _ hb))).2.2]
        exact hp.1 b hb
    exact key _ mem so
/-- the figures of one number -/
theorem smp_figs (n d : Int) (hn : 0 ≤ n) (hd : 0 ≤ d) (m bk k c8 : Slot) : ∀ (ks : List Int) (s : List Nat) (x y : Slot), Digs s → s.length + ks.length ≤ 1000 →
    ∃ s' x' y', forF (to1 6) b_l_sample_1 (ks.map D.int) [.d (.int n), m, bk, k, .d (.int d), .d (.str s), x, y, c8] = .ok (.nx [.d (.int n), m, bk, k, .d (.int d), .d (.str s'), x', y', c8]) ∧ Digs s' ∧ s'.length = s.length + ks.length
  | [], s, x, y, hs, _ => ⟨s, x, y, rfl, hs, rfl⟩
  | j :: ks, s, x, y, hs, hl => by
    rw [List.length_cons] at hl
    have dd := (drawn_nn d j).1
    obtain ⟨b, e1, hb⟩ : ∃ b : Int, atI [D.int 2, .int 3, .int 10] (n / 128 % 3) = some (.int b) ∧ 0 < b ∧ b ≤ 10 := by
      obtain ⟨z, e1, e2⟩ := atI_in (xs := [D.int 2, .int 3, .int 10]) (i := n / 128 % 3) (by omega) (by simp; omega)
      simp only [List.mem_cons, List.mem_nil_iff, or_false, List.not_mem_nil] at e2
      rcases e2 with rfl | rfl | rfl
      · exact ⟨2, e1, by decide, by decide⟩
      · exact ⟨3, e1, by decide, by decide⟩
      · exact ⟨10, e1, by decide, by decide⟩
    have p1 := Int.emod_nonneg (drawn d j / 16) (show b ≠ 0 by omega)
    have p2 := Int.emod_lt_of_pos (drawn d j / 16) hb.1
    obtain ⟨c, e2, hc⟩ : ∃ c, atI [48, 49, 50, 51, 52, 53, 54, 55, 56, 57] (drawn d j / 16 % b) = some c ∧ Dig c := by
      obtain ⟨z, e1, e2⟩ := atI_in (xs := [48, 49, 50, 51, 52, 53, 54, 55, 56, 57]) (i := drawn d j / 16 % b) p1 (by simp; omega)
      exact ⟨z, e1, digs_mem z e2⟩
    obtain ⟨s', x', y', e, h1, h2⟩ := smp_figs n d hn hd m bk k c8 ks (s ++ [c]) (.d (.int j)) (.d (.int (n / 128 % 3))) (hs.app fun z hz => by rw [List.mem_singleton.mp hz]; exact hc) (by rw [List.length_append, List.length_singleton]; omega)
    refine ⟨s', x', y', ?_, h1, by rw [h2, List.length_append, List.length_singleton, List.length_cons]; omega⟩
    rw [List.map_cons, forF_step (ρ1 := [.d (.int n), m, bk, k, .d (.int d), .d (.str s), .d (.int j), y, c8]) (ρ2 := [.d (.int n), m, bk, k, .d (.int d), .d (.str (s ++ [c])), .d (.int j), .d (.int (n / 128 % 3)), c8]) rfl (.inl ?_), e]
    unfold b_l_sample_1
    have d1 : dDiv (.int n) (.int 128) = .ok (.int (n / 128)) := dDiv_ok (by decide)
    have d2 : dMod (.int (n / 128)) (.int 3) = .ok (.int (n / 128 % 3)) := dMod_ok (by decide)
    have d3 : dDiv (.int (drawn d j)) (.int 16) = .ok (.int (drawn d j / 16)) := dDiv_ok (by decide)
    have d4 : dMod (.int (drawn d j / 16)) (.int b) = .ok (.int (drawn d j / 16 % b)) := dMod_ok hb.1
    have ad : dAdd (.str s) (.str [c]) = .ok (.str (s ++ [c])) := dAdd_str (by unfold line; simp; omega)
    have mt : ∀ a b c : D, mkT [a, b, c] = .ok (.tup [a, b, c]) := fun a b c => mkT_small (by simp)
    simp [d1, d2, d3, d4, ad, mt, e1, e2, l_drawn]
theorem smp_turn (n k : Int) (hn : 0 ≤ n) (m : Slot) (qs : List Pair) (hq : BookOk qs) (hl : qs.length < 1000) (x4 x5 x6 x7 c8 : Slot) :
    ∃ q y4 y5 y6 y7, b_l_sample_2 [.d (.int n), m, .M (qs.map encS), .d (.int k), x4, x5, x6, x7, c8] = .ok (.nx [.d (.int n), m, .M ((sput qs q).map encS), .d (.int k), y4, y5, y6, y7, c8]) ∧ PairOk q := by
  have dd := (drawn_nn n (70 + k)).1
  have ld := l_drawn n (70 + k)
  generalize drawn n (70 + k) = d at dd ld
  have d1 : dDiv (.int d) (.int 16) = .ok (.int (d / 16)) := dDiv_ok (by decide)
  have d2 : dDiv (.int n) (.int 64) = .ok (.int (n / 64)) := dDiv_ok (by decide)
  have d3 : dMod (.int (n / 64)) (.int 2) = .ok (.int (n / 64 % 2)) := dMod_ok (by decide)
  have d4 : dDiv (.int d) (.int 128) = .ok (.int (d / 128)) := dDiv_ok (by decide)
  have d5 : dMod (.int (d / 128)) (.int 5) = .ok (.int (d / 128 % 5)) := dMod_ok (by decide)
  obtain ⟨b, e1, b1, b2⟩ : ∃ b : Int, atI [D.int 3, .int 5] (n / 64 % 2) = some (.int b) ∧ 0 < b ∧ b ≤ 5 := by
    obtain ⟨z, e1, e2⟩ := atI_in (xs := [D.int 3, .int 5]) (i := n / 64 % 2) (by omega) (by simp; omega)
    simp only [List.mem_cons, List.mem_nil_iff, or_false, List.not_mem_nil] at e2
    rcases e2 with rfl | rfl
    · exact ⟨3, e1, by decide, by decide⟩
    · exact ⟨5, e1, by decide, by decide⟩
  have d6 : dMod (.int (d / 16)) (.int b) = .ok (.int (d / 16 % b)) := dMod_ok b1
  have p1 := Int.emod_nonneg (d / 16) (show b ≠ 0 by omega)
  have p2 := Int.emod_lt_of_pos (d / 16) b1
  obtain ⟨u, hu⟩ : ∃ u : Nat, 1 + d / 16 % b = u := ⟨(1 + d / 16 % b).toNat, by omega⟩
  have r1 : dRng1 [.int (1 + d / 16 % b)] = .ok (rngL 0 u) := by
    rw [hu]
    exact dRng1_ok (by unfold line; omega)
  obtain ⟨w, e2, hw⟩ : ∃ w, atI [D.non, .str [97], .str [97], .str [98], .str [99, 100]] (d / 128 % 5) = some (optW w) ∧ w ∈ [none, some [97], some [98], some [99, 100]] := by
    obtain ⟨z, e1, e2⟩ := atI_in (xs := [D.non, .str [97], .str [97], .str [98], .str [99, 100]]) (i := d / 128 % 5) (by omega) (by simp; omega)
    simp only [List.mem_cons, List.mem_nil_iff, or_false, List.not_mem_nil] at e2
    rcases e2 with rfl | rfl | rfl | rfl | rfl
    · exact ⟨none, e1, by simp⟩
    · exact ⟨some [97], e1, by simp⟩
    · exact ⟨some [97], e1, by simp⟩
    · exact ⟨some [98], e1, by simp⟩
    · exact ⟨some [99, 100], e1, by simp⟩
  obtain ⟨s', y6, y7, e3, h1, h2⟩ := smp_figs n d hn dd m (.M (qs.map encS)) (.d (.int k)) c8 ((List.range u).map fun i => (0 : Int) + (i : Nat)) [] x6 x7 (fun _ h => by cases h) (by simp; omega)
  have h2 : s'.length = u := by simpa using h2
  refine ⟨(s', w), .d (.int d), .d (.str s'), y6, y7, ?_, ⟨h1, by show 1 ≤ s'.length; omega, by show s'.length ≤ 5; omega, hw⟩⟩
  unfold b_l_sample_2
  have mt2 : ∀ a b : D, mkT [a, b] = .ok (.tup [a, b]) := fun a b => mkT_small (by simp)
  have mt5 : ∀ a b c d e : D, mkT [a, b, c, d, e] = .ok (.tup [a, b, c, d, e]) := fun a b c d e => mkT_small (by simp)
  rw [seq_nx (ρ' := [.d (.int n), m, .M (qs.map encS), .d (.int k), .d (.int d), x5, x6, x7, c8]) (by simp [ld])]
  rw [seq_nx (ρ' := [.d (.int n), m, .M (qs.map encS), .d (.int k), .d (.int d), .d (.str []), x6, x7, c8]) (by simp)]
  rw [seq_nx (ρ' := [.d (.int n), m, .M (qs.map encS), .d (.int k), .d (.int d), .d (.str s'), y6, y7, c8]) (by
    simp only [forS_eq, itR_eq, aCons_eq, aNil_eq, op2_eq, cst_eq, vI_succ, vI_zero, bind_ok, d1, d2, d3, tupV_eq, mt2, dIx_tup, e1, optR_some, d6, dAdd_int, r1]
    rw [rngL_eq]
    exact e3)]
  rw [putS_run (kvs := qs.map encS) (key := s') (d := optW w) (by simp [d4, d5, mt5, e2]) rfl (by simp) (by rw [List.length_map]; unfold line; omega)]
  have := kPut_encS qs (s', w)
  rw [show kPut (qs.map encS) s' (optW w) = _ from this]
  rfl
theorem smp_loop (n : Int) (hn : 0 ≤ n) (m c8 : Slot) : ∀ (ks : List Int) (qs : List Pair) (x3 x4 x5 x6 x7 : Slot), BookOk qs → qs.length + ks.length < 1000 →
    ∃ qs' y3 y4 y5 y6 y7, forF (to1 3) b_l_sample_2 (ks.map D.int) [.d (.int n), m, .M (qs.map encS), x3, x4, x5, x6, x7, c8] = .ok (.nx [.d (.int n), m, .M (qs'.map encS), y3, y4, y5, y6, y7, c8]) ∧ BookOk qs' ∧ qs'.length ≤ qs.length + ks.length
  | [], qs, x3, x4, x5, x6, x7, h, _ => ⟨qs, x3, x4, x5, x6, x7, rfl, h, Nat.le_refl _⟩
  | k :: ks, qs, x3, x4, x5, x6, x7, h, hl => by
    rw [List.length_cons] at hl
    obtain ⟨q, z4, z5, z6, z7, e, hq⟩ := smp_turn n k hn m qs h (by omega) x4 x5 x6 x7 c8
    obtain ⟨h1, h2⟩ := h.put hq
    obtain ⟨qs', y3, y4, y5, y6, y7, e', h3, h4⟩ := smp_loop n hn m c8 ks (sput qs q) (.d (.int k)) z4 z5 z6 z7 h1 (by omega)
    refine ⟨qs', y3, y4, y5, y6, y7, ?_, h3, by rw [List.length_cons]; omega⟩
    rw [List.map_cons, forF_step rfl (.inl e), e']
theorem l_sample (n : Int) (hn : 0 ≤ n) (m : Nat) (hm : m ≤ 60) : ∃ q, f_l_sample [.int n, .int m] = .ok (smpD q) ∧ SmpOk q m := by
  have g1 : 0 ≤ n % ((m : Int) + 1) := Int.emod_nonneg _ (by omega)
  have g2 : n % ((m : Int) + 1) < m + 1 := Int.emod_lt_of_pos _ (by omega)
  obtain ⟨r, hr⟩ : ∃ r : Nat, n % ((m : Int) + 1) = r := ⟨(n % ((m : Int) + 1)).toNat, by omega⟩
  obtain ⟨qs, y3, y4, y5, y6, y7, e, ho, hlen⟩ := smp_loop n hn (.d (.int m)) .no ((List.range r).map fun i => (0 : Int) + (i : Nat)) [] .no .no .no .no .no ⟨by simp, fun _ h => by cases h⟩ (by simp; omega)
  have hlr : qs.length ≤ m := by
    simp at hlen
    omega
  have T := smp_of ho
  refine ⟨_, ?_, ⟨T.ok, Nat.le_trans T.len hlr, T.ord⟩⟩
  show (p_l_sample [.d (.int n), .d (.int m), .no, .no, .no, .no, .no, .no, .no]).bind finF = _
  unfold p_l_sample
  rw [seq_nx (ρ' := [.d (.int n), .d (.int m), .M ([].map encS), .no, .no, .no, .no, .no, .no]) (by simp)]
  have d0 : dMod (.int n) (.int ((m : Int) + 1)) = .ok (.int r) := by rw [dMod_ok (by omega), hr]
  have r1 : dRng1 [.int r] = .ok (rngL 0 r) := dRng1_ok (by unfold line; omega)
  rw [seq_nx (ρ' := [.d (.int n), .d (.int m), .M (qs.map encS), y3, y4, y5, y6, y7, .no]) (by
    simp only [forS_eq, itR_eq, aCons_eq, aNil_eq, op2_eq, cst_eq, vI_succ, vI_zero, bind_ok, dAdd_int, d0, r1]
    rw [rngL_eq]
    exact e)]
  have hs : dSortedG [.dct (qs.map encS)] = .ok (.lst ((sortL (qs.map (·.1))).map .str)) := by
    show (if (qs.map encS).length < 64 then _ else _) = _
    rw [if_pos (by rw [List.length_map]; omega), List.map_map]
    rfl
  have mt2 : ∀ a b : D, mkT [a, b] = .ok (.tup [a, b]) := fun a b => mkT_small (by simp)
  have cp : compF (to1 8) yesT (tupV (aCons (vI 8) (aCons (op2 dGet (vI 2) (vI 8)) (aNil)))) [8] [.d (.int n), .d (.int m), .d (.dct (qs.map encS)), y3, y4, y5, y6, y7, .no] ((sortL (qs.map (·.1))).map .str) = .ok (((sortL (qs.map (·.1))).map (sget qs)).map pairS) := by
    rw [List.map_map]
    refine compF_genm (tgt := to1 8) (vs := [8]) (ρ := [.d (.int n), .d (.int m), .d (.dct (qs.map encS)), y3, y4, y5, y6, y7, .no]) (fun k : List Nat => D.str k) (fun k => [.d (.int n), .d (.int m), .d (.dct (qs.map encS)), y3, y4, y5, y6, y7, .d (.str k)]) (pairS ∘ sget qs) (sortL (qs.map (·.1))) (fun _ _ => rfl) fun k hk => ?_
    obtain ⟨k1, k2, k3⟩ := kGet_encS qs k ((sortL_perm _).mem_iff.mp hk)
    have dg : dGet (.dct (qs.map encS)) (.str k) = .ok (optW (sget qs k).2) := by
      show optR (kGet (qs.map encS) k) = _
      rw [k1]
      rfl
    simp only [tupV_eq, aCons_eq, aNil_eq, op2_eq, vI_succ, vI_zero, bind_ok, dg, mt2, Function.comp]
    show R.ok (D.tup [.str k, optW (sget qs k).2]) = .ok (.tup [.str (sget qs k).1, optW (sget qs k).2])
    rw [k3]
  simp only [frzS_eq, retS_eq, calls_eq, aCons_eq, aNil_eq, compV_eq, itVn_eq, frzE, List.getElem?_cons_succ, List.getElem?_cons_zero, List.set_cons_succ, List.set_cons_zero, vI_zero, vI_succ, bind_ok, hs, noEr_ok', items_lst, cp, dTuple_lst, finF_rt]
  rfl
end DD

namespace DD
open PySem PySem.Spec PyProof.Rows L2
/-! ### texts of tables and samples -/
theorem joinL_glu (c : Nat) : ∀ zs : List (List Nat), joinL [c] zs = gluL c zs
  | [] => rfl
  | z :: r => by
    show r.foldl (fun acc p => acc ++ [c] ++ p) z = gluL c (z :: r)
    have : ∀ (r : List (List Nat)) (z : List Nat), r.foldl (fun acc p => acc ++ [c] ++ p) z = gluL c (z :: r) := fun r => by
      induction r with
      | nil => intro z; rfl
      | cons x r ih =>
        intro z
        rw [List.foldl_cons, ih]
        show gluL c ((z ++ [c] ++ x) :: r) = z ++ c :: gluL c (x :: r)
        cases r with
        | nil =>
          show z ++ [c] ++ x = z ++ c :: x
          simp
        | cons y r =>
          show (z ++ [c] ++ x) ++ c :: gluL c (y :: r) = z ++ c :: (x ++ c :: gluL c (y :: r))
          simp
    exact this r z
def rowsT (rows : List (List (List Nat))) : List Nat := (rows.map fun ws => gluL 32 ws ++ [10]).flatten
theorem glu_len (c : Nat) : ∀ zs : List (List Nat), (gluL c zs).length ≤ (zs.map (·.length)).sum + zs.length
  | [] => by simp [gluL]
  | [z] => by simp [gluL]
  | z :: y :: r => by
    have := glu_len c (y :: r)
    show (z ++ c :: gluL c (y :: r)).length ≤ _
    simp only [List.length_append, List.length_cons, List.map_cons, List.sum_cons] at *
    omega
theorem sum_le (B : Nat) : ∀ ws : List (List Nat), (∀ w ∈ ws, w.length ≤ B) → (ws.map (·.length)).sum ≤ ws.length * B
  | [], _ => by simp
  | w :: ws, h => by
    have h1 := h w List.mem_cons_self
    have h2 := sum_le B ws fun z hz => h z (List.mem_cons_of_mem _ hz)
    simp only [List.map_cons, List.sum_cons, List.length_cons]
    rw [Nat.succ_mul]
    omega
theorem flat_len (l : List (List Nat)) : l.flatten.length = (l.map (·.length)).sum := by
  rw [List.length_flatten]
theorem dJoin_glu (c : Nat) (ws : List (List Nat)) (h : (ws.map (·.length)).sum + ws.length ≤ 1000000) : dJoin (.str [c]) [.lst (ws.map .str)] = .ok (.str (gluL c ws)) := by
  unfold dJoin
  simp only [texts_map, joinL_glu]
  have := glu_len c ws
  have e : (List.map (fun x => x.length) ws).sum = (ws.map (·.length)).sum := rfl
  rw [if_pos]
  refine ⟨?_, by unfold line; omega⟩
  simp only [List.length_singleton, Nat.mul_one]
  omega
theorem dJoin_flat (ws : List (List Nat)) (h : (ws.map (·.length)).sum ≤ 1000000) : dJoin (.str []) [.lst (ws.map .str)] = .ok (.str ws.flatten) := by
  unfold dJoin
  simp only [texts_map, joinL_nil]
  have := flat_len ws
  rw [if_pos]
  refine ⟨?_, by unfold line; omega⟩
  simp only [List.length_nil, Nat.mul_zero, Nat.add_zero]
  have e : (List.map (fun x => x.length) ws).sum = (ws.map (·.length)).sum := rfl
  omega
structure RowsOk (rows : List (List (List Nat))) : Prop where
  few : rows.length ≤ 1000
  row : ∀ ws ∈ rows, ws.length ≤ 3 ∧ ∀ w ∈ ws, w.length ≤ 100
theorem rows_text_ok {rows : List (List (List Nat))} (h : RowsOk rows) : f_rows_text [.lst (rows.map fun ws => .lst (ws.map .str))] = .ok (.str (rowsT rows)) := by
  show (p_rows_text [.d (.lst (rows.map fun ws => .lst (ws.map .str))), .no]).bind finF = _
  unfold p_rows_text
  have wl : ∀ ws ∈ rows, (ws.map (·.length)).sum + ws.length ≤ 303 := fun ws hw => by
    obtain ⟨h1, h2⟩ := h.row ws hw
    have := sum_le 100 ws h2
    have : ws.length * 100 ≤ 3 * 100 := Nat.mul_le_mul_right _ h1
    omega
  have cp : compF (to1 1) yesT (op2 dAdd (methS dJoin (cst (.str [32])) (aCons (vI 1) (aNil))) (cst (.str [10]))) [1] [.d (.lst (rows.map fun ws => .lst (ws.map .str))), .no] (rows.map fun ws => .lst (ws.map .str)) = .ok ((rows.map fun ws => gluL 32 ws ++ [10]).map .str) := by
    rw [List.map_map]
    refine compF_genm (tgt := to1 1) (vs := [1]) (ρ := [.d (.lst (rows.map fun ws => .lst (ws.map .str))), .no]) (fun ws : List (List Nat) => D.lst (ws.map .str)) (fun ws => [.d (.lst (rows.map fun ws => .lst (ws.map .str))), .d (.lst (ws.map .str))]) (D.str ∘ fun ws => gluL 32 ws ++ [10]) rows (fun _ _ => rfl) fun ws hw => ?_
    have w1 := wl ws hw
    have j := dJoin_glu 32 ws (by omega)
    have gl := glu_len 32 ws
    have ad : dAdd (.str (gluL 32 ws)) (.str [10]) = .ok (.str (gluL 32 ws ++ [10])) := dAdd_str (by unfold line; simp; omega)
    simp only [op2_eq, methS_eq, cst_eq, bind_ok, isStr_str, if_true, aCons_eq, aNil_eq, vI_succ, vI_zero, j, ad, Function.comp]
  have fl : ((rows.map fun ws => gluL 32 ws ++ [10]).map (·.length)).sum ≤ 1000000 := by
    have := sum_le 304 (rows.map fun ws => gluL 32 ws ++ [10]) fun z hz => by
      obtain ⟨ws, hw, rfl⟩ := List.mem_map.mp hz
      have := wl ws hw
      have := glu_len 32 ws
      rw [List.length_append, List.length_singleton]
      omega
    rw [List.length_map] at this
    have : rows.length * 304 ≤ 1000 * 304 := Nat.mul_le_mul_right _ h.few
    omega
  have j2 := dJoin_flat _ fl
  simp only [retS_eq, methS_eq, cst_eq, bind_ok, isStr_str, if_true, aCons_eq, aNil_eq, compV_eq, itVn_eq, vI_zero, noEr_ok', items_lst, cp, j2, finF_rt]
  rfl
/-! tables -/
def pref (p : List Nat) : List Nat := if p = [] then [42] else p
def wordsR (r : Rule) : List (List Nat) := if r.s = 0 then [pref r.p, txtI r.s] else [pref r.p, txtI r.s, r.w]
def tabT (t : List Rule) : List Nat := rowsT (t.map wordsR)
theorem rule_words_ok (r : Rule) (h : r.s.natAbs < 1000) : f_rule_words [ruleD r] = .ok (.lst ((wordsR r).map .str)) := by
  show (p_rule_words [.d (ruleD r), .no, .no, .no]).bind finF = _
  unfold p_rule_words wordsR pref
  have ds : dStr [.int r.s] = .ok (.str (txtI r.s)) := dStr_ok (by omega)
  have m2 : ∀ a b : D, mkL [a, b] = .ok (.lst [a, b]) := fun a b => mkL_small (by simp)
  have m3 : ∀ a b c : D, mkL [a, b, c] = .ok (.lst [a, b, c]) := fun a b c => mkL_small (by simp)
  rw [seq_nx (ρ' := [.d (ruleD r), .d (.str r.p), .d (.int r.s), .d (.str r.w)]) rfl]
  by_cases hp : r.p = []
  · rw [seq_nx (ρ' := [.d (ruleD r), .d (.str [42]), .d (.int r.s), .d (.str r.w)]) (by simp [hp])]
    by_cases hs : r.s = 0
    · simp [hp, hs] at *
      simp [ds, m2]
    · simp [hp, hs, ds, m3]
  · rw [seq_nx (ρ' := [.d (ruleD r), .d (.str r.p), .d (.int r.s), .d (.str r.w)]) (by simp [hp])]
    by_cases hs : r.s = 0
    · simp [hp, hs] at *
      simp [ds, m2]
    · simp [hp, hs, ds, m3]
theorem txtI_len {i : Int} (h : i.natAbs < 1000) : (txtI i).length ≤ 10 := by
  have := int_text_length_le10 (a := i) (k := 3) (by decide) (by simpa using h)
  unfold txtI
  rw [Str.ofString_eq_toList]
  have e : (toString i).toList.length = (toString i).length := String.length_toList
  show (((toString i).toList.map Char.toNat).toArray.toList).length ≤ 10
  rw [List.toList_toArray, List.length_map]
  omega
structure RuleSm (r : Rule) : Prop where
  p : r.p.length ≤ 100
  s : r.s.natAbs < 1000
  w : r.w.length ≤ 100
theorem wordsR_ok {r : Rule} (h : RuleSm r) : (wordsR r).length ≤ 3 ∧ ∀ w ∈ wordsR r, w.length ≤ 100 := by
  have tl := txtI_len h.s
  have pl : (pref r.p).length ≤ 100 := by
    unfold pref
    split
    · simp
    · exact h.p
  unfold wordsR
  split
  · refine ⟨by simp, fun w hw => ?_⟩
    simp only [List.mem_cons, List.mem_nil_iff, or_false, List.not_mem_nil] at hw
    rcases hw with rfl | rfl <;> omega
  · refine ⟨by simp, fun w hw => ?_⟩
    simp only [List.mem_cons, List.mem_nil_iff, or_false, List.not_mem_nil] at hw
    rcases hw with rfl | rfl | rfl
    · omega
    · omega
    · exact h.w
theorem rowsR_ok {t : List Rule} (h : ∀ r ∈ t, RuleSm r) (hl : t.length ≤ 1000) : RowsOk (t.map wordsR) := by
  refine ⟨by rw [List.length_map]; exact hl, fun ws hw => ?_⟩
  obtain ⟨r, hr, rfl⟩ := List.mem_map.mp hw
  exact wordsR_ok (h r hr)
theorem table_text_ok {t : List Rule} (h : ∀ r ∈ t, RuleSm r) (hl : t.length ≤ 1000) : f_table_text [tabD t] = .ok (.str (tabT t)) := by
  show (p_table_text [.d (tabD t), .no]).bind finF = _
  unfold p_table_text
  have cp : compF (to1 1) yesT (callF 1 f_rule_words (aCons (vI 1) (aNil))) [1] [.d (tabD t), .no] (t.map ruleD) = .ok ((t.map wordsR).map fun ws => .lst (ws.map .str)) := by
    rw [List.map_map]
    refine compF_genm (tgt := to1 1) (vs := [1]) (ρ := [.d (tabD t), .no]) ruleD (fun r => [.d (tabD t), .d (ruleD r)]) ((fun ws : List (List Nat) => D.lst (ws.map .str)) ∘ wordsR) t (fun _ _ => rfl) fun r hr => ?_
    simp [rule_words_ok r (h r hr).s]
  have it : items (tabD t) = .ok (t.map ruleD) := rfl
  have rt := rows_text_ok (rowsR_ok h hl)
  simp only [retS_eq, callF_eq, aCons_eq, aNil_eq, compV_eq, itVn_eq, vI_zero, noEr_ok', bind_ok, it, cp, List.length_cons, List.length_nil, if_true, rt, finF_rt]
  rfl
theorem WfR.sm {r : Rule} (h : WfR r) : RuleSm r := by
  refine ⟨by have := h.len; omega, ?_, ?_⟩
  · rcases h.body with b | b <;> omega
  · rcases h.body with b | ⟨_, _, _, b⟩
    · rw [b.2]; simp
    · simp only [wordB, Bool.and_eq_true, decide_eq_true_eq] at b
      omega
/-! samples -/
def wordsS (q : Pair) : List (List Nat) := [q.1, q.2.getD [45]]
def smpT (q : List Pair) : List Nat := rowsT (q.map wordsS)
structure PairSm (q : Pair) : Prop where
  p : q.1.length ≤ 100
  w : ∀ w, q.2 = some w → w.length ≤ 100
theorem sample_loop (sd : Slot) : ∀ (q : List Pair) (acc : List (List (List Nat))) (x2 x3 : Slot), acc.length + q.length ≤ 1000 →
    ∃ y2 y3, forF (toN [2, 3]) b_sample_text_1 (q.map pairS) [sd, .L (acc.map fun ws => .lst (ws.map .str)), x2, x3] = .ok (.nx [sd, .L ((acc ++ q.map wordsS).map fun ws => .lst (ws.map .str)), y2, y3])
  | [], acc, x2, x3, _ => ⟨x2, x3, by rw [show acc ++ List.map wordsS [] = acc from List.append_nil acc]; rfl⟩
  | p :: q, acc, x2, x3, hl => by
    rw [List.length_cons] at hl
    obtain ⟨y2, y3, e⟩ := sample_loop sd q (acc ++ [wordsS p]) (.d (.str p.1)) (.d (.str (p.2.getD [45]))) (by rw [List.length_append, List.length_singleton]; omega)
    refine ⟨y2, y3, ?_⟩
    have m2 : ∀ a b : D, mkL [a, b] = .ok (.lst [a, b]) := fun a b => mkL_small (by simp)
    have oc : acc ++ (p :: q).map wordsS = (acc ++ [wordsS p]) ++ q.map wordsS := by rw [List.map_cons, List.append_assoc]; rfl
    rw [oc, List.map_cons, forF_step (ρ1 := [sd, .L (acc.map fun ws => .lst (ws.map .str)), .d (.str p.1), .d (optW p.2)]) (ρ2 := [sd, .L ((acc ++ [wordsS p]).map fun ws => .lst (ws.map .str)), .d (.str p.1), .d (.str (p.2.getD [45]))]) rfl (.inl ?_), e]
    unfold b_sample_text_1
    rw [seq_nx (ρ' := [sd, .L (acc.map fun ws => .lst (ws.map .str)), .d (.str p.1), .d (.str (p.2.getD [45]))]) (by
      cases h : p.2 with
      | none => simp [optW]
      | some w => simp [optW])]
    rw [appS_run (xs := acc.map fun ws => .lst (ws.map .str)) (d := .lst ((wordsS p).map .str)) rfl (by simp [m2, wordsS]) (by rw [List.length_map]; unfold line; omega), List.map_append]
    rfl
theorem rowsS_ok {q : List Pair} (h : ∀ p ∈ q, PairSm p) (hl : q.length ≤ 1000) : RowsOk (q.map wordsS) := by
  refine ⟨by rw [List.length_map]; exact hl, fun ws hw => ?_⟩
  obtain ⟨p, hp, rfl⟩ := List.mem_map.mp hw
  have H := h p hp
  refine ⟨by simp [wordsS], fun w hw => ?_⟩
  simp only [wordsS, List.mem_cons, List.mem_nil_iff, or_false, List.not_mem_nil] at hw
  rcases hw with rfl | rfl
  · exact H.p
  · cases e : p.2 with
    | none => simp
    | some w => exact H.w w e
theorem sample_text_ok {q : List Pair} (h : ∀ p ∈ q, PairSm p) (hl : q.length ≤ 1000) : f_sample_text [smpD q] = .ok (.str (smpT q)) := by
  show (p_sample_text [.d (smpD q), .no, .no, .no]).bind finF = _
  unfold p_sample_text
  obtain ⟨y2, y3, e⟩ := sample_loop (.d (smpD q)) q [] .no .no (by simpa using hl)
  rw [List.nil_append] at e
  rw [seq_nx (ρ' := [.d (smpD q), .L ([].map fun ws : List (List Nat) => .lst (ws.map .str)), .no, .no]) (by unfold newLS; simp [line])]
  have it : items (smpD q) = .ok (q.map pairS) := rfl
  rw [seq_nx (by simp only [forS_eq, itVn_eq, vI_zero, noEr_ok', bind_ok, it]; exact e)]
  have rt := rows_text_ok (rowsS_ok h hl)
  simp only [frzS_eq, frzE, List.getElem?_cons_succ, List.getElem?_cons_zero, List.set_cons_succ, List.set_cons_zero, retS_eq, callF_eq, aCons_eq, aNil_eq, vI_succ, vI_zero, bind_ok, List.length_cons, List.length_nil, if_true, rt, finF_rt]
  rfl
end DD

namespace DD
open PySem PySem.Spec PyProof.Rows L2
/-! ### texts read -/
theorem need_t : f_need [.bl true] = .ok .non := rfl
theorem need_f : f_need [.bl false] = .er 3 := rfl
/-- the words of all rows, if the last row is ended -/
def rowsOf (s : List Nat) : Option (List (List (List Nat))) := if (splL 10 s).getLast? = some [] then some ((splL 10 s).dropLast.map (splL 32)) else none
theorem atI_last {α : Type} {xs : List α} {x : α} (h : xs.getLast? = some x) : atI xs (-1) = some x := by
  have ne : xs ≠ [] := fun e => by rw [e] at h; cases h
  have l : 0 < xs.length := List.length_pos_iff.mpr ne
  unfold atI ixN
  rw [if_neg (by decide)]
  rw [List.getLast?_eq_getElem?] at h
  have e : ((-1 : Int) + (xs.length : Int)).toNat = xs.length - 1 := by omega
  split
  · rename_i q
    show xs[((-1 : Int) + (xs.length : Int)).toNat]? = some x
    rw [e, h]
  · rename_i q
    exfalso
    apply q
    omega
theorem rows_of_ok (s : List Nat) (h : s.length ≤ 100000) : f_rows_of [.str s] = match rowsOf s with
    | some rows => .ok (.lst (rows.map fun ws => .lst (ws.map .str)))
    | none => .er 3 := by
  show (p_rows_of [.d (.str s), .no, .no]).bind finF = _
  unfold p_rows_of rowsOf
  have sp := dSplit_ok (a := s) (c := 10) h
  rw [seq_nx (ρ' := [.d (.str s), .d (.lst ((splL 10 s).map .str)), .no]) (by simp [sp])]
  obtain ⟨z, hz⟩ : ∃ z, (splL 10 s).getLast? = some z := by
    cases e : (splL 10 s).getLast? with
    | none => exact absurd (List.getLast?_eq_none_iff.mp e) (splL_ne 10 s)
    | some z => exact ⟨z, rfl⟩
  have ix : atI ((splL 10 s).map D.str) (-1) = some (.str z) := by
    rw [atI_map, atI_last hz]
    rfl
  rw [hz]
  by_cases e : z = []
  · subst e
    rw [if_pos rfl]
    have st : (dropS (callF 1 f_need (aCons (op2 dEq (op2 dIx (vI 1) (cst (.int (-1)))) (cst (.str []))) (aNil)))) [.d (.str s), .d (.lst ((splL 10 s).map .str)), .no] = .ok (.nx [.d (.str s), .d (.lst ((splL 10 s).map .str)), .no]) := by
      simp [ix, need_t]
    rw [seq_nx st]
    have cp : compF (to1 2) yesT (methS dSplit (vI 2) (aCons (cst (.str [32])) (aNil))) [2] [.d (.str s), .d (.lst ((splL 10 s).map .str)), .no] ((splL 10 s).dropLast.map .str) = .ok (((splL 10 s).dropLast.map (splL 32)).map fun ws => .lst (ws.map .str)) := by
      rw [List.map_map]
      refine compF_genm (tgt := to1 2) (vs := [2]) (ρ := [.d (.str s), .d (.lst ((splL 10 s).map .str)), .no]) (fun p : List Nat => D.str p) (fun p => [.d (.str s), .d (.lst ((splL 10 s).map .str)), .d (.str p)]) ((fun ws : List (List Nat) => D.lst (ws.map .str)) ∘ splL 32) (splL 10 s).dropLast (fun _ _ => rfl) fun p hp => ?_
      have pl := spl_piece (List.dropLast_subset _ hp)
      have sp := dSplit_ok (a := p) (c := 32) (by omega)
      simp [sp]
    simp only [retS_eq, compV_eq, itVn_eq, slcV_eq, vI_succ, vI_zero, bind_ok, oNo_eq, oSome_eq, cst_eq, asI_int, dCut_lst, cutL_init, noEr_ok', items_lst]
    rw [← List.map_dropLast, cp]
    rfl
  · rw [if_neg (fun q => e (Option.some.inj q))]
    have ie : z.isEmpty = false := by simpa using e
    simp [ix, ie, need_f]
/-- a rule's words -/
def ruleWB (ws : List (List Nat)) : Bool := decide (2 ≤ ws.length) && decide (ws.length ≤ 3) && decide (1 ≤ (ws.getD 1 []).length) && decide ((ws.getD 1 []).length ≤ 2) && figB (ws.getD 1 [])
def ruleW (ws : List (List Nat)) : Rule := ⟨if ws.getD 0 [] = [42] then [] else ws.getD 0 [], (figV (ws.getD 1 [])).getD 0, ws.getD 2 []⟩
theorem figV_some {s : List Nat} (h1 : 1 ≤ s.length) (h2 : s.length ≤ 2) (h3 : figB s = true) : ∃ n, figV s = some n ∧ 0 ≤ n ∧ n ≤ 99 := by
  have dg := figB_iff.mp h3
  match s with
  | [] => simp at h1
  | [c] =>
    have := dg c List.mem_cons_self
    exact ⟨_, if_pos this, by omega, by omega⟩
  | [c, d] =>
    have h1 := dg c List.mem_cons_self
    have h2 := dg d (by simp)
    exact ⟨_, if_pos ⟨h1, h2⟩, by omega, by omega⟩
  | a :: b :: c :: r => simp at h2
theorem rule_of_ok (ws : List (List Nat)) (hl : ws.length ≤ 100000) : f_rule_of [.lst (ws.map .str)] = if ruleWB ws = true then .ok (ruleD (ruleW ws)) else .er 3 := by
  show (p_rule_of [.d (.lst (ws.map .str)), .no, .no]).bind finF = _
  unfold p_rule_of
  have nd : ∀ b : Bool, (dropS (callF 1 f_need (aCons (cst (.bl b)) (aNil)))) [.d (.lst (ws.map .str)), .no, .no] = if b = true then .ok (.nx [.d (.lst (ws.map .str)), .no, .no]) else .er 3 := fun b => by cases b <;> rfl
  have cond : (andV (chn dLe dLe (cst (.int 2)) (calls dLen (aCons (vI 0) (aNil))) (cst (.int 3))) (andV (chn dLe dLe (cst (.int 1)) (calls dLen (aCons (op2 dIx (vI 0) (cst (.int 1))) (aNil))) (cst (.int 2))) (calls dAll (aCons (compV (itVn (op2 dIx (vI 0) (cst (.int 1)))) (to1 2) (yesT) (op2 dIn (vI 2) (cst (.str [48, 49, 50, 51, 52, 53, 54, 55, 56, 57]))) [2]) (aNil))))) [.d (.lst (ws.map .str)), .no, .no] = .ok (.bl (ruleWB ws)) := by
    unfold ruleWB
    match ws, hl with
    | [], _ => rfl
    | [a], _ => simp
    | a :: b :: c :: d :: r, _ =>
      have n3 : ¬ ((r.length : Int) + 1 + 1 + 1 + 1 ≤ 3) := by omega
      have n3' : ¬ (r.length + 1 + 1 + 1 + 1 ≤ 3) := by omega
      simp [n3, n3']
    | [a, b], _ =>
      have cp := sign_all (i := 2) (ρ := [.d (.lst ([a, b].map .str)), .no, .no]) (a := op2 dIn (vI 2) (cst (.str [48, 49, 50, 51, 52, 53, 54, 55, 56, 57]))) digs b fun c => rfl
      by_cases h1 : (1 : Int) ≤ b.length
      · by_cases h2 : (b.length : Int) ≤ 2
        · have h1' : 1 ≤ b.length := by omega
          have h2' : b.length ≤ 2 := by omega
          have ix : dIx (.lst ([a, b].map .str)) (.int 1) = .ok (.str b) := by simp
          have ln : dLen [.lst ([a, b].map D.str)] = .ok (.int 2) := rfl
          simp only [andV_eq, chn_eq, cst_eq, calls_eq, aCons_eq, aNil_eq, vI_zero, bind_ok, ln, dCmp_int, asB_bl, op2_eq, ix, dLen_str, h1, h2, decide_true, if_true, compV_eq, itVn_eq, noEr_ok', items_str, cp, dAll_bls, all_map]
          simp [h1', h2', figB]
        · have h2' : ¬ b.length ≤ 2 := by omega
          simp [h1, h2, h2']
      · have h1' : ¬ 1 ≤ b.length := by omega
        simp [h1, h1']
    | [a, b, c], _ =>
      have cp := sign_all (i := 2) (ρ := [.d (.lst ([a, b, c].map .str)), .no, .no]) (a := op2 dIn (vI 2) (cst (.str [48, 49, 50, 51, 52, 53, 54, 55, 56, 57]))) digs b fun c => rfl
      by_cases h1 : (1 : Int) ≤ b.length
      · by_cases h2 : (b.length : Int) ≤ 2
        · have h1' : 1 ≤ b.length := by omega
          have h2' : b.length ≤ 2 := by omega
          have ix : dIx (.lst ([a, b, c].map .str)) (.int 1) = .ok (.str b) := by simp
          have ln : dLen [.lst ([a, b, c].map D.str)] = .ok (.int 3) := rfl
          simp only [andV_eq, chn_eq, cst_eq, calls_eq, aCons_eq, aNil_eq, vI_zero, bind_ok, ln, dCmp_int, asB_bl, op2_eq, ix, dLen_str, h1, h2, decide_true, if_true, compV_eq, itVn_eq, noEr_ok', items_str, cp, dAll_bls, all_map]
          simp [h1', h2', figB]
        · have h2' : ¬ b.length ≤ 2 := by omega
          simp [h1, h2, h2']
      · have h1' : ¬ 1 ≤ b.length := by omega
        simp [h1, h1']
  have st : (dropS (callF 1 f_need (aCons (andV (chn dLe dLe (cst (.int 2)) (calls dLen (aCons (vI 0) (aNil))) (cst (.int 3))) (andV (chn dLe dLe (cst (.int 1)) (calls dLen (aCons (op2 dIx (vI 0) (cst (.int 1))) (aNil))) (cst (.int 2))) (calls dAll (aCons (compV (itVn (op2 dIx (vI 0) (cst (.int 1)))) (to1 2) (yesT) (op2 dIn (vI 2) (cst (.str [48, 49, 50, 51, 52, 53, 54, 55, 56, 57]))) [2]) (aNil))))) (aNil)))) [.d (.lst (ws.map .str)), .no, .no] = if ruleWB ws = true then .ok (.nx [.d (.lst (ws.map .str)), .no, .no]) else .er 3 := by
    rw [← nd (ruleWB ws)]
    simp only [dropS_eq, callF_eq, aCons_eq, aNil_eq, cond, cst_eq, bind_ok]
  by_cases hw : ruleWB ws = true
  · rw [if_pos hw] at st ⊢
    rw [seq_nx st]
    have hw2 := hw
    unfold ruleWB at hw2
    simp only [Bool.and_eq_true, decide_eq_true_eq] at hw2
    obtain ⟨⟨⟨⟨w1, w2⟩, w3⟩, w4⟩, w5⟩ := hw2
    obtain ⟨n, hn, _⟩ := figV_some w3 w4 w5
    have m1 : ∀ a : D, mkL [a] = .ok (.lst [a]) := fun a => mkL_small (by simp)
    have m3 : ∀ a b c : D, mkT [a, b, c] = .ok (.tup [a, b, c]) := fun a b c => mkT_small (by simp)
    unfold ruleW ruleD
    rw [hn]
    match ws, w1, w2, hn with
    | [a, b], _, _, hn =>
      have i2 : dInt2 [.str b] = .ok (.int n) := by
        show (match figV b with | some n => R.ok (D.int n) | none => .un) = _
        rw [show figV b = some n from hn]
      have ad : dAdd (.lst [.str a, .str b]) (.lst [.str []]) = .ok (.lst [.str a, .str b, .str []]) := dAdd_lst (by unfold line; simp)
      by_cases ha : a = [42]
      · simp [ha, i2, m1, m3] at *
        simp [ad, m3]
      · simp [ha, i2, m1, m3, ad]
    | [a, b, c], _, _, hn =>
      have i2 : dInt2 [.str b] = .ok (.int n) := by
        show (match figV b with | some n => R.ok (D.int n) | none => .un) = _
        rw [show figV b = some n from hn]
      have ad : dAdd (.lst [.str a, .str b, .str c]) (.lst [.str []]) = .ok (.lst [.str a, .str b, .str c, .str []]) := dAdd_lst (by unfold line; simp)
      by_cases ha : a = [42]
      · simp [ha, i2, m1, m3] at *
        simp [ad, m3]
      · simp [ha, i2, m1, m3, ad]
    | [], w1, _, _ => simp at w1
    | [a], w1, _, _ => simp at w1
    | a :: b :: c :: d :: r, _, w2, _ => simp at w2
  · rw [if_neg hw] at st ⊢
    rw [seqS_eq, st]
    rfl
/-! ### written and read again -/
theorem rowsT_glu : ∀ rows : List (List (List Nat)), rowsT rows = gluL 10 (rows.map (gluL 32) ++ [[]])
  | [] => rfl
  | ws :: rows => by
    have ih := rowsT_glu rows
    show (gluL 32 ws ++ [10]) ++ rowsT rows = gluL 10 (gluL 32 ws :: (rows.map (gluL 32) ++ [[]]))
    rw [ih]
    cases rows with
    | nil =>
      show (gluL 32 ws ++ [10]) ++ gluL 10 [[]] = gluL 32 ws ++ 10 :: gluL 10 [[]]
      simp
    | cons y rows =>
      show (gluL 32 ws ++ [10]) ++ gluL 10 (gluL 32 y :: (rows.map (gluL 32) ++ [[]])) = gluL 32 ws ++ 10 :: gluL 10 (gluL 32 y :: (rows.map (gluL 32) ++ [[]]))
      simp
theorem glu_mem {c z : Nat} : ∀ {ws : List (List Nat)}, z ∈ gluL c ws → z = c ∨ ∃ w ∈ ws, z ∈ w
  | [], h => by cases h
  | [w], h => .inr ⟨w, List.mem_cons_self, h⟩
  | w :: y :: r, h => by
    have h : z ∈ w ++ c :: gluL c (y :: r) := h
    rcases List.mem_append.mp h with q | q
    · exact .inr ⟨w, List.mem_cons_self, q⟩
    · rcases List.mem_cons.mp q with e | e
      · exact .inl e
      · rcases glu_mem (ws := y :: r) e with x | ⟨v, hv, x⟩
        · exact .inl x
        · exact .inr ⟨v, List.mem_cons_of_mem _ hv, x⟩
theorem rowsOf_rowsT {rows : List (List (List Nat))} (h : ∀ ws ∈ rows, ws ≠ [] ∧ ∀ w ∈ ws, 10 ∉ w ∧ 32 ∉ w) : rowsOf (rowsT rows) = some rows := by
  have sp : splL 10 (rowsT rows) = rows.map (gluL 32) ++ [[]] := by
    rw [rowsT_glu]
    refine spl_glu 10 _ (by simp) fun p hp => ?_
    rcases List.mem_append.mp hp with q | q
    · obtain ⟨ws, hw, rfl⟩ := List.mem_map.mp q
      intro m
      rcases glu_mem m with e | ⟨w, hw2, e⟩
      · cases e
      · exact ((h ws hw).2 w hw2).1 e
    · rw [List.mem_singleton.mp q]
      simp
  unfold rowsOf
  rw [sp, if_pos (by simp), List.dropLast_concat, List.map_map]
  congr 1
  have : ∀ ws ∈ rows, (splL 32 ∘ gluL 32) ws = ws := fun ws hw => spl_glu 32 ws (h ws hw).1 fun w hw2 => ((h ws hw).2 w hw2).2
  exact (List.map_congr_left this).trans (List.map_id _)
theorem txt12 : ∀ i : Fin 13, figV (txtI ((i.1 : Nat) : Int)) = some ((i.1 : Nat) : Int) ∧ figB (txtI ((i.1 : Nat) : Int)) = true ∧ 1 ≤ (txtI ((i.1 : Nat) : Int)).length ∧ (txtI ((i.1 : Nat) : Int)).length ≤ 2 := by decide +kernel
theorem txt_ok {s : Int} (h0 : 0 ≤ s) (h1 : s ≤ 12) : figV (txtI s) = some s ∧ figB (txtI s) = true ∧ 1 ≤ (txtI s).length ∧ (txtI s).length ≤ 2 := by
  have := txt12 ⟨s.toNat, by omega⟩
  have e : ((s.toNat : Nat) : Int) = s := by omega
  simp only [e] at this
  exact this
theorem digs_free {s : List Nat} (h : Digs s) : 10 ∉ s ∧ 32 ∉ s ∧ 42 ∉ s := ⟨fun m => by have := h 10 m; omega, fun m => by have := h 32 m; omega, fun m => by have := h 42 m; omega⟩
theorem lets_free {s : List Nat} (h : letB s = true) : 10 ∉ s ∧ 32 ∉ s ∧ 45 ∉ s := by
  unfold letB at h
  rw [List.all_eq_true] at h
  refine ⟨fun m => ?_, fun m => ?_, fun m => ?_⟩ <;> (have := h _ m; revert this; decide)
theorem wordB_let {w : List Nat} (h : wordB (.str w) = true) : letB w = true ∧ 1 ≤ w.length ∧ w.length ≤ 4 := by
  simp only [wordB, Bool.and_eq_true, decide_eq_true_eq] at h
  exact ⟨h.2, h.1.1, h.1.2⟩
theorem WfR.siz {r : Rule} (h : WfR r) : 0 ≤ r.s ∧ r.s ≤ 12 := by rcases h.body with b | b <;> omega
theorem wordsR_free {r : Rule} (h : WfR r) : wordsR r ≠ [] ∧ ∀ w ∈ wordsR r, 10 ∉ w ∧ 32 ∉ w := by
  obtain ⟨_, t2, _, _⟩ := txt_ok h.siz.1 h.siz.2
  have tf := digs_free (figB_iff.mp t2)
  have pf : 10 ∉ pref r.p ∧ 32 ∉ pref r.p := by
    unfold pref
    split
    · exact ⟨by decide, by decide⟩
    · exact ⟨(digs_free h.dig).1, (digs_free h.dig).2.1⟩
  unfold wordsR
  split
  · refine ⟨by simp, fun w hw => ?_⟩
    simp only [List.mem_cons, List.mem_nil_iff, or_false, List.not_mem_nil] at hw
    rcases hw with rfl | rfl
    · exact pf
    · exact ⟨tf.1, tf.2.1⟩
  · rename_i h0
    refine ⟨by simp, fun w hw => ?_⟩
    simp only [List.mem_cons, List.mem_nil_iff, or_false, List.not_mem_nil] at hw
    rcases hw with rfl | rfl | rfl
    · exact pf
    · exact ⟨tf.1, tf.2.1⟩
    · rcases h.body with b | b
      · exact absurd b.1 h0
      · have := lets_free (wordB_let b.2.2.2).1
        exact ⟨this.1, this.2.1⟩
theorem ruleW_back {r : Rule} (h : WfR r) : ruleWB (wordsR r) = true ∧ ruleW (wordsR r) = r := by
  obtain ⟨t1, t2, t3, t4⟩ := txt_ok h.siz.1 h.siz.2
  have pb : (if pref r.p = [42] then [] else pref r.p) = r.p := by
    unfold pref
    by_cases e : r.p = []
    · rw [if_pos e, if_pos rfl, e]
    · rw [if_neg e, if_neg]
      intro z
      exact (digs_free h.dig).2.2 (by rw [z]; simp)
  unfold wordsR
  by_cases h0 : r.s = 0
  · rw [if_pos h0]
    have hw : r.w = [] := by
      rcases h.body with b | b
      · exact b.2
      · omega
    refine ⟨by simp [ruleWB, t2, t3, t4], ?_⟩
    unfold ruleW
    simp only [List.getD_cons_zero, List.getD_cons_succ, List.getD_nil, t1, pb, Option.getD_some]
    cases r
    simp at hw
    simp [hw]
  · rw [if_neg h0]
    refine ⟨by simp [ruleWB, t2, t3, t4], ?_⟩
    unfold ruleW
    simp only [List.getD_cons_zero, List.getD_cons_succ, t1, pb, Option.getD_some]
theorem rowsOf_tab {t : List Rule} (h : ∀ r ∈ t, WfR r) : rowsOf (tabT t) = some (t.map wordsR) := rowsOf_rowsT fun ws hw => by
  obtain ⟨r, hr, rfl⟩ := List.mem_map.mp hw
  exact wordsR_free (h r hr)
/-- what is read of a text -/
def rdT (s : List Nat) : Option (List Rule) := match rowsOf s with
  | none => none
  | some rows => if rows.all ruleWB = true then (if (isTabB (tabD (rows.map ruleW)) && (tabT (rows.map ruleW) == s)) = true then some (rows.map ruleW) else none) else none
theorem rows_len {s : List Nat} {rows : List (List (List Nat))} (h : rowsOf s = some rows) : ∀ ws ∈ rows, ws.length ≤ s.length + 1 := fun ws hw => by
  unfold rowsOf at h
  split at h
  · cases h
    obtain ⟨p, hp, rfl⟩ := List.mem_map.mp hw
    have := spl_len 32 p
    have := spl_piece (List.dropLast_subset _ hp)
    omega
  · cases h
theorem read_table_ok {s : List Nat} (hs : s.length ≤ 90000) : f_read_table [.str s] = match rdT s with
    | some t => .ok (tabD t)
    | none => .er 3 := by
  show (p_read_table [.d (.str s), .no, .no]).bind finF = _
  unfold p_read_table rdT
  have ro := rows_of_ok s (by omega)
  cases h : rowsOf s with
  | none =>
    rw [h] at ro
    simp only at ro
    simp [ro]
  | some rows =>
    rw [h] at ro
    simp only at ro ⊢
    have rl := rows_len h
    have cp : compXF (to1 2) yesT (callF 1 f_rule_of (aCons (vI 2) (aNil))) [2] [.d (.str s), .no, .no] (rows.map fun ws => .lst (ws.map .str)) = if rows.all ruleWB = true then .ok (rows.map (ruleD ∘ ruleW)) else .er 3 := by
      refine compXF_er (tgt := to1 2) (vs := [2]) (ρ := [.d (.str s), .no, .no]) (z := 3) (fun ws : List (List Nat) => D.lst (ws.map .str)) (fun ws => [.d (.str s), .no, .d (.lst (ws.map .str))]) ruleWB (ruleD ∘ ruleW) rows (fun _ _ => rfl) fun ws hw => ?_
      have := rule_of_ok ws (by have := rl ws hw; omega)
      simp only [callF_eq, aCons_eq, aNil_eq, vI_succ, vI_zero, bind_ok, List.length_cons, List.length_nil, if_true, this, Function.comp]
    cases ha : rows.all ruleWB with
    | false =>
      rw [ha, if_neg Bool.false_ne_true] at cp
      rw [if_neg Bool.false_ne_true]
      simp only [seqS_eq, setS_eq, calls_eq, aCons_eq, aNil_eq, compX_eq, itV_eq, callF_eq, vI_zero, bind_ok, List.length_cons, List.length_nil, if_true, ro, items_lst, cp, bind_er]
    | true =>
      rw [ha, if_pos rfl, ← List.map_map] at cp
      rw [if_pos rfl]
      generalize rows.map ruleW = t at cp ⊢
      rw [seq_nx (ρ' := [.d (.str s), .d (tabD t), .no]) (by
        simp only [setS_eq, calls_eq, aCons_eq, aNil_eq, compX_eq, itV_eq, callF_eq, vI_zero, bind_ok, List.length_cons, List.length_nil, if_true, ro, items_lst, cp, dTuple_lst, List.set_cons_succ, List.set_cons_zero]
        rfl)]
      have it := is_table_ok (tabD t)
      cases hb : isTabB (tabD t) with
      | false =>
        rw [hb] at it
        simp [it, need_f]
      | true =>
        rw [hb] at it
        have W := isTab_iff.mp hb
        have tt := table_text_ok (fun r hr => (W.ok r hr).sm) (by have := W.len; omega)
        cases he : (tabT t == s) with
        | false => simp [it, tt, he, need_f]
        | true => simp [it, tt, he, need_t]
/-- what is read is a table with that text -/
theorem rdT_some {s : List Nat} {t : List Rule} (h : rdT s = some t) : WfT t ∧ tabT t = s := by
  unfold rdT at h
  split at h
  · cases h
  · split at h
    · split at h
      · rename_i hb
        cases h
        rw [Bool.and_eq_true] at hb
        exact ⟨isTab_iff.mp hb.1, by simpa using hb.2⟩
      · cases h
    · cases h
theorem tabT_len {t : List Rule} (h : WfT t) : (tabT t).length ≤ 90000 := by
  unfold tabT rowsT
  rw [flat_len]
  have ro := rowsR_ok (fun r hr => (h.ok r hr).sm) (by have := h.len; omega)
  have := sum_le 304 ((t.map wordsR).map fun ws => gluL 32 ws ++ [10]) fun z hz => by
    obtain ⟨ws, hw, rfl⟩ := List.mem_map.mp hz
    obtain ⟨h1, h2⟩ := ro.row ws hw
    have := sum_le 100 ws h2
    have : ws.length * 100 ≤ 3 * 100 := Nat.mul_le_mul_right _ h1
    have := glu_len 32 ws
    rw [List.length_append, List.length_singleton]
    omega
  rw [List.length_map, List.length_map] at this
  have := h.len
  have : t.length * 304 ≤ 30 * 304 := Nat.mul_le_mul_right _ h.len
  omega
theorem rdT_back {t : List Rule} (h : WfT t) : rdT (tabT t) = some t := by
  have e : (t.map wordsR).map ruleW = t := by
    rw [List.map_map]
    exact (List.map_congr_left fun r hr => (ruleW_back (h.ok r hr)).2).trans (List.map_id _)
  have al : (t.map wordsR).all ruleWB = true := by
    rw [List.all_eq_true]
    intro ws hw
    obtain ⟨r, hr, rfl⟩ := List.mem_map.mp hw
    exact (ruleW_back (h.ok r hr)).1
  unfold rdT
  rw [rowsOf_tab h.ok]
  simp only
  rw [if_pos al, e, isTab_iff.mpr h, if_pos (by simp)]
theorem read_back {t : List Rule} (h : WfT t) : f_read_table [.str (tabT t)] = .ok (tabD t) := by
  rw [read_table_ok (tabT_len h), rdT_back h]
theorem tabT_inj {t u : List Rule} (ht : ∀ r ∈ t, WfR r) (hu : ∀ r ∈ u, WfR r) (h : tabT t = tabT u) : t = u := by
  have e1 := rowsOf_tab ht
  have e2 := rowsOf_tab hu
  rw [h, e2] at e1
  have e3 := congrArg (List.map ruleW) (Option.some.inj e1)
  rw [List.map_map, List.map_map] at e3
  have b : ∀ {v : List Rule}, (∀ r ∈ v, WfR r) → v.map (ruleW ∘ wordsR) = v := fun {v} hv => (List.map_congr_left fun r hr => (ruleW_back (hv r hr)).2).trans (List.map_id _)
  rw [b ht, b hu] at e3
  exact e3.symm
end DD

namespace DD
open PySem PySem.Spec PyProof.Rows L2
/-! ### samples read -/
def pairWB (ws : List (List Nat)) : Bool := decide (ws.length = 2) && areFig (.str (ws.getD 0 [])) 1 12 && ((ws.getD 1 [] == [45]) || wordB (.str (ws.getD 1 [])))
def pairW (ws : List (List Nat)) : Pair := (ws.getD 0 [], if ws.getD 1 [] = [45] then none else some (ws.getD 1 []))
theorem pair_of_ok (ws : List (List Nat)) : f_pair_of [.lst (ws.map .str)] = if pairWB ws = true then .ok (pairS (pairW ws)) else .er 3 := by
  show (p_pair_of [.d (.lst (ws.map .str))]).bind finF = _
  unfold p_pair_of
  have m2 : ∀ a b : D, mkT [a, b] = .ok (.tup [a, b]) := fun a b => mkT_small (by simp)
  match ws with
  | [] => rfl
  | [a] =>
    have e : pairWB [a] = false := by simp [pairWB]
    rw [e]
    simp [need_f]
  | a :: b :: c :: r =>
    have e : pairWB (a :: b :: c :: r) = false := by simp [pairWB]
    have ne : ¬ ((r.length : Int) + 1 + 1 + 1 = 2) := by omega
    rw [e]
    simp [ne, need_f]
  | [a, b] =>
    have isn := is_number_ok (.str a)
    have isw := is_word_ok (.str b)
    unfold pairWB pairW pairS
    cases h1 : areFig (.str a) 1 12 with
    | false =>
      rw [h1] at isn
      simp [isn, h1, need_f]
    | true =>
      rw [h1] at isn
      by_cases h2 : b = [45]
      · subst h2
        simp [isn, h1, need_t, m2, optW]
      · cases h3 : wordB (.str b) with
        | false =>
          rw [h3] at isw
          simp [isn, h1, isw, h2, h3, need_t, need_f]
        | true =>
          rw [h3] at isw
          simp [isn, h1, isw, h2, h3, need_t, m2, optW]
def adjS : List Pair → Bool
  | a :: b :: r => decide (a.1 < b.1) && adjS (b :: r)
  | _ => true
abbrev QSort (q : List Pair) : Prop := q.Pairwise fun a b => a.1 < b.1
theorem adjS_iff : ∀ {t : List Pair}, adjS t = true ↔ QSort t
  | [] => by simp [adjS]
  | [a] => by simp [adjS]
  | a :: b :: r => by
    have ih := adjS_iff (t := b :: r)
    show (decide (a.1 < b.1) && adjS (b :: r)) = true ↔ _
    rw [Bool.and_eq_true, decide_eq_true_eq, ih]
    constructor
    · rintro ⟨h1, h2⟩
      refine List.pairwise_cons.mpr ⟨fun q hq => ?_, h2⟩
      rcases List.mem_cons.mp hq with e | e
      · rw [e]; exact h1
      · exact List.lt_trans h1 ((List.pairwise_cons.mp h2).1 q e)
    · intro h
      have h := List.pairwise_cons.mp h
      exact ⟨h.1 b List.mem_cons_self, h.2⟩
theorem adjS_nbr : ∀ t : List Pair, ((nbr t).map fun q => decide (q.1.1 < q.2.1)).all id = adjS t
  | [] => rfl
  | [a] => rfl
  | a :: b :: r => by
    have ih := adjS_nbr (b :: r)
    show (decide (a.1 < b.1) && ((nbr (b :: r)).map fun q => decide (q.1.1 < q.2.1)).all id) = _
    rw [ih]
    rfl
@[simp] theorem dIx_pair0 (q : Pair) : dIx (pairS q) (.int 0) = .ok (.str q.1) := by simp [pairS]
def rdS (s : List Nat) : Option (List Pair) := match rowsOf s with
  | none => none
  | some rows => if rows.all pairWB = true then (if (decide ((rows.map pairW).length ≤ 16) && adjS (rows.map pairW)) = true then some (rows.map pairW) else none) else none
theorem read_sample_ok {s : List Nat} (hs : s.length ≤ 90000) : f_read_sample [.str s] = match rdS s with
    | some q => .ok (smpD q)
    | none => .er 3 := by
  show (p_read_sample [.d (.str s), .no, .no, .no, .no]).bind finF = _
  unfold p_read_sample rdS
  have ro := rows_of_ok s (by omega)
  cases h : rowsOf s with
  | none =>
    rw [h] at ro
    simp only at ro
    simp [ro]
  | some rows =>
    rw [h] at ro
    simp only at ro ⊢
    have cp : compXF (to1 2) yesT (callF 1 f_pair_of (aCons (vI 2) (aNil))) [2] [.d (.str s), .no, .no, .no, .no] (rows.map fun ws => .lst (ws.map .str)) = if rows.all pairWB = true then .ok (rows.map (pairS ∘ pairW)) else .er 3 := by
      refine compXF_er (tgt := to1 2) (vs := [2]) (ρ := [.d (.str s), .no, .no, .no, .no]) (z := 3) (fun ws : List (List Nat) => D.lst (ws.map .str)) (fun ws => [.d (.str s), .no, .d (.lst (ws.map .str)), .no, .no]) pairWB (pairS ∘ pairW) rows (fun _ _ => rfl) fun ws hw => ?_
      have := pair_of_ok ws
      simp only [callF_eq, aCons_eq, aNil_eq, vI_succ, vI_zero, bind_ok, List.length_cons, List.length_nil, if_true, this, Function.comp]
    cases ha : rows.all pairWB with
    | false =>
      rw [ha, if_neg Bool.false_ne_true] at cp
      rw [if_neg Bool.false_ne_true]
      simp only [seqS_eq, setS_eq, calls_eq, aCons_eq, aNil_eq, compX_eq, itV_eq, callF_eq, vI_zero, bind_ok, List.length_cons, List.length_nil, if_true, ro, items_lst, cp, bind_er]
    | true =>
      rw [ha, if_pos rfl, ← List.map_map] at cp
      rw [if_pos rfl]
      generalize rows.map pairW = t at cp ⊢
      rw [seq_nx (ρ' := [.d (.str s), .d (.tup (t.map pairS)), .no, .no, .no]) (by
        simp only [setS_eq, calls_eq, aCons_eq, aNil_eq, compX_eq, itV_eq, callF_eq, vI_zero, bind_ok, List.length_cons, List.length_nil, if_true, ro, items_lst, cp, dTuple_lst, List.set_cons_succ, List.set_cons_zero])]
      by_cases hl : t.length ≤ 16
      · have hl' : (t.length : Int) ≤ 16 := by omega
        have zp : dZip [.tup ((t.map pairS).dropLast), .tup ((t.map pairS).tail)] = .ok ((nbr t).map fun q => .tup [pairS q.1, pairS q.2]) := by
          show R.ok (pairs _ _) = _
          rw [pairs_nbr]
        have cp2 : compF (toN [3, 4]) yesT (op2 dLt (op2 dIx (vI 3) (cst (.int 0))) (op2 dIx (vI 4) (cst (.int 0)))) [3, 4] [.d (.str s), .d (.tup (t.map pairS)), .no, .no, .no] ((nbr t).map fun q => .tup [pairS q.1, pairS q.2]) = .ok (((nbr t).map fun q => decide (q.1.1 < q.2.1)).map .bl) := by
          rw [List.map_map]
          exact compF_genm (fun q : Pair × Pair => D.tup [pairS q.1, pairS q.2]) (fun q => [.d (.str s), .d (.tup (t.map pairS)), .no, .d (pairS q.1), .d (pairS q.2)]) (fun q => .bl (decide (q.1.1 < q.2.1))) (nbr t) (fun _ _ => rfl) fun q _ => by simp
        have ln : dLen [.tup (t.map pairS)] = .ok (.int t.length) := by rw [dLen_tup, List.length_map]
        have st : (dropS (callF 1 f_need (aCons (andV (op2 dLe (calls dLen (aCons (vI 1) (aNil))) (cst (.int 16))) (calls dAll (aCons (compV (itR dZip (aCons (slcV (vI 1) (oNo) (oSome (cst (.int (-1))))) (aCons (slcV (vI 1) (oSome (cst (.int 1))) (oNo)) (aNil)))) (toN [3, 4]) (yesT) (op2 dLt (op2 dIx (vI 3) (cst (.int 0))) (op2 dIx (vI 4) (cst (.int 0)))) [3, 4]) (aNil)))) (aNil)))) [.d (.str s), .d (.tup (t.map pairS)), .no, .no, .no] = (f_need [.bl (adjS t)]).bind fun _ => .ok (.nx [.d (.str s), .d (.tup (t.map pairS)), .no, .no, .no]) := by
          simp only [dropS_eq, callF_eq, aCons_eq, aNil_eq, andV_eq, op2_eq, calls_eq, vI_succ, vI_zero, cst_eq, bind_ok, ln, dCmp_int, hl', decide_true, asB_bl, if_true, compV_eq, itR_eq, slcV_eq, oNo_eq, oSome_eq, asI_int, dCut_tup, cutL_init, cutL_tail, zp, cp2, dAll_bls, adjS_nbr, List.length_cons, List.length_nil]
        rw [seqS_eq, st, decide_eq_true hl, Bool.true_and]
        cases adjS t with
        | false => rfl
        | true => rfl
      · have hl' : ¬ (t.length : Int) ≤ 16 := by omega
        have ln : dLen [.tup (t.map pairS)] = .ok (.int t.length) := by rw [dLen_tup, List.length_map]
        rw [decide_eq_false hl, Bool.false_and]
        simp [ln, hl', need_f]
theorem rdS_some {s : List Nat} {q : List Pair} (h : rdS s = some q) : ∃ rows, rowsOf s = some rows ∧ rows.all pairWB = true ∧ q = rows.map pairW ∧ q.length ≤ 16 ∧ QSort q := by
  unfold rdS at h
  split at h
  · cases h
  · rename_i rows hr
    split at h
    · rename_i ha
      split at h
      · rename_i hb
        cases h
        rw [Bool.and_eq_true, decide_eq_true_eq, adjS_iff] at hb
        exact ⟨rows, hr, ha, rfl, hb.1, hb.2⟩
      · cases h
    · cases h
structure WfP (q : Pair) : Prop where
  num : areFig (.str q.1) 1 12 = true
  wrd : ∀ w, q.2 = some w → wordB (.str w) = true
structure WfS (q : List Pair) : Prop where
  ok : ∀ p ∈ q, WfP p
  len : q.length ≤ 16
  ord : QSort q
theorem WfP.dig {q : Pair} (h : WfP q) : Digs q.1 ∧ 1 ≤ q.1.length ∧ q.1.length ≤ 12 := by
  have := h.num
  simp only [areFig, Bool.and_eq_true, decide_eq_true_eq] at this
  exact ⟨figB_iff.mp this.2, by omega, by omega⟩
theorem WfP.sm {q : Pair} (h : WfP q) : PairSm q := ⟨by have := h.dig; omega, fun w e => by have := (wordB_let (h.wrd w e)).2; omega⟩
theorem PairOk.wf {q : Pair} (h : PairOk q) : WfP q := by
  refine ⟨?_, fun w e => ?_⟩
  · simp only [areFig, Bool.and_eq_true, decide_eq_true_eq]
    exact ⟨⟨by have := h.pos; omega, by have := h.len; omega⟩, figB_iff.mpr h.dig⟩
  · have hw := h.wrd
    rw [e] at hw
    simp only [List.mem_cons, List.mem_nil_iff, or_false, List.not_mem_nil, reduceCtorEq, Option.some.injEq, false_or] at hw
    rcases hw with rfl | rfl | rfl <;> decide
theorem SmpOk.wf {q : List Pair} {m : Nat} (h : SmpOk q m) (hm : m ≤ 16) : WfS q := ⟨fun p hp => (h.ok p hp).wf, Nat.le_trans h.len hm, h.ord⟩
theorem wordsS_free {q : Pair} (h : WfP q) : wordsS q ≠ [] ∧ ∀ w ∈ wordsS q, 10 ∉ w ∧ 32 ∉ w := by
  refine ⟨by simp [wordsS], fun w hw => ?_⟩
  simp only [wordsS, List.mem_cons, List.mem_nil_iff, or_false, List.not_mem_nil] at hw
  rcases hw with rfl | rfl
  · have := digs_free h.dig.1
    exact ⟨this.1, this.2.1⟩
  · cases e : q.2 with
    | none => exact ⟨by decide, by decide⟩
    | some w =>
      have := lets_free (wordB_let (h.wrd w e)).1
      exact ⟨this.1, this.2.1⟩
theorem pairW_back {q : Pair} (h : WfP q) : pairWB (wordsS q) = true ∧ pairW (wordsS q) = q := by
  have num := h.num
  obtain ⟨a, o⟩ := q
  cases o with
  | none => exact ⟨by simp [pairWB, wordsS, num], by simp [pairW, wordsS]⟩
  | some w =>
    have hw := h.wrd w rfl
    have ne : w ≠ [45] := fun e => (lets_free (wordB_let hw).1).2.2 (by rw [e]; simp)
    exact ⟨by simp [pairWB, wordsS, num, hw], by simp [pairW, wordsS, ne]⟩
theorem rowsOf_smp {q : List Pair} (h : ∀ p ∈ q, WfP p) : rowsOf (smpT q) = some (q.map wordsS) := rowsOf_rowsT fun ws hw => by
  obtain ⟨r, hr, rfl⟩ := List.mem_map.mp hw
  exact wordsS_free (h r hr)
theorem smpT_len {q : List Pair} (h : WfS q) : (smpT q).length ≤ 90000 := by
  unfold smpT rowsT
  rw [flat_len]
  have ro := rowsS_ok (fun p hp => (h.ok p hp).sm) (by have := h.len; omega)
  have := sum_le 304 ((q.map wordsS).map fun ws => gluL 32 ws ++ [10]) fun z hz => by
    obtain ⟨ws, hw, rfl⟩ := List.mem_map.mp hz
    obtain ⟨h1, h2⟩ := ro.row ws hw
    have := sum_le 100 ws h2
    have : ws.length * 100 ≤ 3 * 100 := Nat.mul_le_mul_right _ h1
    have := glu_len 32 ws
    rw [List.length_append, List.length_singleton]
    omega
  rw [List.length_map, List.length_map] at this
  have := h.len
  have : q.length * 304 ≤ 16 * 304 := Nat.mul_le_mul_right _ h.len
  omega
theorem rdS_back {q : List Pair} (h : WfS q) : rdS (smpT q) = some q := by
  have e : (q.map wordsS).map pairW = q := by
    rw [List.map_map]
    exact (List.map_congr_left fun r hr => (pairW_back (h.ok r hr)).2).trans (List.map_id _)
  have al : (q.map wordsS).all pairWB = true := by
    rw [List.all_eq_true]
    intro ws hw
    obtain ⟨r, hr, rfl⟩ := List.mem_map.mp hw
    exact (pairW_back (h.ok r hr)).1
  unfold rdS
  rw [rowsOf_smp h.ok]
  simp only
  rw [if_pos al, e, adjS_iff.mpr h.ord, decide_eq_true h.len, Bool.and_self, if_pos rfl]
theorem read_backS {q : List Pair} (h : WfS q) : f_read_sample [.str (smpT q)] = .ok (smpD q) := by
  rw [read_sample_ok (smpT_len h), rdS_back h]
theorem smpT_inj {t u : List Pair} (ht : ∀ r ∈ t, WfP r) (hu : ∀ r ∈ u, WfP r) (h : smpT t = smpT u) : t = u := by
  have e1 := rowsOf_smp ht
  have e2 := rowsOf_smp hu
  rw [h, e2] at e1
  have e3 := congrArg (List.map pairW) (Option.some.inj e1)
  rw [List.map_map, List.map_map] at e3
  have b : ∀ {v : List Pair}, (∀ r ∈ v, WfP r) → v.map (pairW ∘ wordsS) = v := fun {v} hv => (List.map_congr_left fun r hr => (pairW_back (hv r hr)).2).trans (List.map_id _)
  rw [b ht, b hu] at e3
  exact e3.symm
theorem nice_pair (q : Pair) : D.nice (pairS q) = true := by
  obtain ⟨a, o⟩ := q
  cases o <;> simp [pairS, optW]
theorem nice_smp (q : List Pair) : D.nice (smpD q) = true := by
  unfold smpD
  rw [nice_tup]
  refine nices_all fun x hx => ?_
  obtain ⟨p, _, rfl⟩ := List.mem_map.mp hx
  exact nice_pair p
theorem plain_smp (q : List Pair) (n : Nat) : D.plain (smpD q) (n + 2) = true := by
  unfold smpD
  rw [plain_tup]
  refine plains_all fun x hx => ?_
  obtain ⟨p, _, rfl⟩ := List.mem_map.mp hx
  obtain ⟨a, o⟩ := p
  cases o <;> simp [pairS, optW]
theorem pairS_inj {a b : Pair} (h : pairS a = pairS b) : a = b := by
  obtain ⟨a, o⟩ := a
  obtain ⟨b, u⟩ := b
  cases o <;> cases u <;> simp_all [pairS, optW]
theorem smpD_inj : ∀ {a b : List Pair}, smpD a = smpD b → a = b := fun {a b} h => by
  have h : a.map pairS = b.map pairS := by
    unfold smpD at h
    injection h
  exact (List.map_inj_right fun x y e => pairS_inj e).mp h
theorem tabD_inj : ∀ {a b : List Rule}, tabD a = tabD b → a = b := fun {a b} h => by
  have h : a.map ruleD = b.map ruleD := by
    unfold tabD at h
    injection h
  exact (List.map_inj_right fun x y e => ruleD_inj e).mp h
end DD

namespace DD
open PySem PySem.Spec PyProof.Rows L2
/-! ### texts changed; what is read of them -/
theorem tabT_lenB {t : List Rule} (h : WfT t) : (tabT t).length ≤ t.length * 304 := by
  unfold tabT rowsT
  rw [flat_len]
  have ro := rowsR_ok (fun r hr => (h.ok r hr).sm) (by have := h.len; omega)
  have := sum_le 304 ((t.map wordsR).map fun ws => gluL 32 ws ++ [10]) fun z hz => by
    obtain ⟨ws, hw, rfl⟩ := List.mem_map.mp hz
    obtain ⟨h1, h2⟩ := ro.row ws hw
    have := sum_le 100 ws h2
    have : ws.length * 100 ≤ 3 * 100 := Nat.mul_le_mul_right _ h1
    have := glu_len 32 ws
    rw [List.length_append, List.length_singleton]
    omega
  rw [List.length_map, List.length_map] at this
  omega
theorem smpT_lenB {q : List Pair} (h : WfS q) : (smpT q).length ≤ q.length * 304 := by
  unfold smpT rowsT
  rw [flat_len]
  have ro := rowsS_ok (fun p hp => (h.ok p hp).sm) (by have := h.len; omega)
  have := sum_le 304 ((q.map wordsS).map fun ws => gluL 32 ws ++ [10]) fun z hz => by
    obtain ⟨ws, hw, rfl⟩ := List.mem_map.mp hz
    obtain ⟨h1, h2⟩ := ro.row ws hw
    have := sum_le 100 ws h2
    have : ws.length * 100 ≤ 3 * 100 := Nat.mul_le_mul_right _ h1
    have := glu_len 32 ws
    rw [List.length_append, List.length_singleton]
    omega
  rw [List.length_map, List.length_map] at this
  omega
theorem rowsOf_text {s : List Nat} {rows : List (List (List Nat))} (h : rowsOf s = some rows) : rowsT rows = s := by
  unfold rowsOf at h
  split at h
  · rename_i hl
    cases h
    rw [rowsT_glu, List.map_map]
    have e : (splL 10 s).dropLast.map (gluL 32 ∘ splL 32) = (splL 10 s).dropLast := by
      have : ∀ p ∈ (splL 10 s).dropLast, (gluL 32 ∘ splL 32) p = p := fun p _ => glu_spl 32 p
      exact (List.map_congr_left this).trans (List.map_id _)
    rw [e]
    have e2 : (splL 10 s).dropLast ++ [[]] = splL 10 s := by
      rw [List.getLast?_eq_some_iff] at hl
      obtain ⟨ys, hy⟩ := hl
      rw [hy, List.dropLast_concat]
    rw [e2, glu_spl]
  · cases h
theorem pairW_fwd {ws : List (List Nat)} (h : pairWB ws = true) : wordsS (pairW ws) = ws ∧ WfP (pairW ws) := by
  match ws with
  | [] => simp [pairWB] at h
  | [a] => simp [pairWB] at h
  | a :: b :: c :: r => simp [pairWB] at h
  | [a, b] =>
    simp only [pairWB, List.length_cons, List.length_nil, decide_true, Bool.true_and, List.getD_cons_zero, List.getD_cons_succ, Bool.and_eq_true, Bool.or_eq_true] at h
    unfold wordsS pairW
    simp only [List.getD_cons_zero, List.getD_cons_succ]
    by_cases hb : b = [45]
    · subst hb
      exact ⟨rfl, h.1, fun w e => by simp at e⟩
    · rw [if_neg hb]
      refine ⟨rfl, h.1, fun w e => ?_⟩
      have e : some b = some w := e
      cases e
      rcases h.2 with z | z
      · exact absurd (by simpa using z) hb
      · exact z
/-- what is read is a sample with that text -/
theorem rdS_is {s : List Nat} {q : List Pair} (h : rdS s = some q) : WfS q ∧ smpT q = s := by
  obtain ⟨rows, h1, h2, rfl, h4, h5⟩ := rdS_some h
  rw [List.all_eq_true] at h2
  refine ⟨⟨fun p hp => ?_, h4, h5⟩, ?_⟩
  · obtain ⟨ws, hw, rfl⟩ := List.mem_map.mp hp
    exact (pairW_fwd (h2 ws hw)).2
  · unfold smpT
    rw [List.map_map]
    have : ∀ ws ∈ rows, (wordsS ∘ pairW) ws = ws := fun ws hw => (pairW_fwd (h2 ws hw)).1
    rw [(List.map_congr_left this).trans (List.map_id _)]
    exact rowsOf_text h1
theorem strict_dd {l : List (List Nat)} (h : l.Pairwise fun a b => a < b) : sortSet l = .lst (l.map .str) := by
  unfold sortSet
  congr 2
  refine (sortL_of ?_ ?_).symm
  · exact (List.perm_ext_iff_of_nodup (h.imp fun {a b} lt e => by rw [e] at lt; exact List.lt_irrefl _ lt) (dedL_nodup _)).mpr fun z => (dedL_mem _ z).symm
  · exact h.imp fun {a b} lt e => List.lt_irrefl _ (List.lt_trans lt e)
theorem l_is_sample_ok {q : List Pair} (h : WfS q) : f_l_is_sample [smpD q] = .ok (.bl true) := by
  show (p_l_is_sample [.d (smpD q), .no, .no, .no, .no]).bind finF = _
  unfold p_l_is_sample
  have ql := h.len
  have it : items (smpD q) = .ok (q.map pairS) := rfl
  have cp : compF (to1 4) yesT (op2 dIx (vI 4) (cst (.int 0))) [4] [.d (smpD q), .no, .no, .no, .no] (q.map pairS) = .ok ((q.map (·.1)).map .str) := by
    rw [List.map_map]
    exact compF_genm (tgt := to1 4) (vs := [4]) (ρ := [.d (smpD q), .no, .no, .no, .no]) pairS (fun p => [.d (smpD q), .no, .no, .no, .d (pairS p)]) (D.str ∘ (·.1)) q (fun _ _ => rfl) fun p _ => by simp
  rw [seq_nx (ρ' := [.d (smpD q), .d (.lst ((q.map (·.1)).map .str)), .no, .no, .no]) (by
    simp only [setS_eq, compV_eq, itVn_eq, vI_zero, noEr_ok', bind_ok, it, cp, List.set_cons_succ, List.set_cons_zero])]
  have ss : dSS [.lst ((q.map (·.1)).map .str)] = .ok (.lst ((q.map (·.1)).map .str)) := by
    rw [dSS_lst _ (by rw [List.length_map]; omega), strict_dd (List.pairwise_map.mpr h.ord)]
  have q1 : dNe (.lst ((q.map (·.1)).map .str)) (.lst ((q.map (·.1)).map .str)) = .ok (.bl false) := by
    have p : D.plain (.lst ((q.map (·.1)).map .str)) 60 = true := plain_strs _ 59
    exact dNe_same p (eqv_refl _ 60 p)
  have ln : dLen [smpD q] = .ok (.int q.length) := by
    show R.ok (D.int ((q.map pairS).length : Nat)) = _
    rw [List.length_map]
  have ng : decide ((q.length : Int) > 16) = false := decide_eq_false (by omega)
  have gt : dGt (.int (q.length : Int)) (.int 16) = .ok (.bl false) := by
    rw [← ng]
    rfl
  have isa : isaV .tuple (vI 0) [.d (smpD q), .d (.lst ((q.map (·.1)).map .str)), .no, .no, .no] = .ok (.bl true) := rfl
  rw [seq_nx (ρ' := [.d (smpD q), .d (.lst ((q.map (·.1)).map .str)), .no, .no, .no]) (by
    simp only [ifS_eq, orT_eq, notT_eq, tst_eq, isa, bind_ok, asB_bl, Bool.not_true, Bool.false_eq_true, if_false, op2_eq, calls_eq, aCons_eq, aNil_eq, vI_succ, vI_zero, ln, cst_eq, gt, ss, q1, skipS_eq])]
  obtain ⟨ρ1, f1, x2, x3, rfl⟩ := forF_inv (tgt := toN [2, 3]) (bd := b_l_is_sample_1) (fun ρ => ∃ x2 x3, ρ = [.d (smpD q), .d (.lst ((q.map (·.1)).map .str)), x2, x3, .no]) (q.map pairS) (fun x hx ρ hρ => by
    obtain ⟨x2, x3, rfl⟩ := hρ
    obtain ⟨p, hp, rfl⟩ := List.mem_map.mp hx
    have P := h.ok p hp
    refine ⟨[.d (smpD q), .d (.lst ((q.map (·.1)).map .str)), .d (.str p.1), .d (optW p.2), .no], [.d (smpD q), .d (.lst ((q.map (·.1)).map .str)), .d (.str p.1), .d (optW p.2), .no], rfl, .inl ?_, _, _, rfl⟩
    unfold b_l_is_sample_1
    have isn := is_number_ok (.str p.1)
    rw [P.num] at isn
    cases e : p.2 with
    | none => simp [isn, optW]
    | some w =>
      have wl := (wordB_let (P.wrd w e)).2
      have w1 : (1 : Int) ≤ w.length := by omega
      have w2 : (w.length : Int) ≤ 4 := by omega
      simp [isn, optW, w1, w2]) [.d (smpD q), .d (.lst ((q.map (·.1)).map .str)), .no, .no, .no] ⟨_, _, rfl⟩
  rw [seq_nx (by
    simp only [forS_eq, itVn_eq, vI_zero, noEr_ok', bind_ok, it]
    exact f1)]
  rfl
/-- a text changed at a place -/
theorem l_changed_ok {s : List Nat} {n : Int} (hn : 0 ≤ n) (hs : s.length ≤ 80000) : ∃ z, f_l_changed [.str s, .int n] = .ok (.str z) ∧ z.length ≤ 2 * s.length + 1 := by
  obtain ⟨c, e2⟩ : ∃ c, atI [48, 49, 50, 57, 97, 98, 42, 45, 32, 10, 122] (n / 4096 % 11) = some c := by
    obtain ⟨z, e1, _⟩ := atI_in (xs := [48, 49, 50, 57, 97, 98, 42, 45, 32, 10, 122]) (i := n / 4096 % 11) (by omega) (by simp; omega)
    exact ⟨z, e1⟩
  show ∃ z, (p_l_changed [.d (.str s), .d (.int n), .no, .no]).bind finF = .ok (.str z) ∧ z.length ≤ 2 * s.length + 1
  unfold p_l_changed
  have d1 : dDiv (.int n) (.int 16) = .ok (.int (n / 16)) := dDiv_ok (by decide)
  have d2 : dMod (.int (n / 16)) (.int ((s.length : Int) + 1)) = .ok (.int (n / 16 % ((s.length : Int) + 1))) := dMod_ok (by omega)
  have d3 : dDiv (.int n) (.int 4096) = .ok (.int (n / 4096)) := dDiv_ok (by decide)
  have d4 : dMod (.int (n / 4096)) (.int 11) = .ok (.int (n / 4096 % 11)) := dMod_ok (by decide)
  have d5 : dMod (.int n) (.int 4) = .ok (.int (n % 4)) := dMod_ok (by decide)
  have d6 : dDiv (.int n) (.int 64) = .ok (.int (n / 64)) := dDiv_ok (by decide)
  have d7 : dMod (.int (n / 64)) (.int 9) = .ok (.int (n / 64 % 9)) := dMod_ok (by decide)
  generalize n / 16 % ((s.length : Int) + 1) = a at d2
  generalize n / 64 % 9 = b at d7
  rw [seq_nx (ρ' := [.d (.str s), .d (.int n), .d (.int a), .no]) (by simp [d1, d2])]
  rw [seq_nx (ρ' := [.d (.str s), .d (.int n), .d (.int a), .d (.str [c])]) (by simp [d3, d4, e2])]
  have cl := fun lo hi => cutL_len s lo hi
  have a3 : ∀ l1 h1 l2 h2, dAdd (.str (cutL s l1 h1)) (.str (cutL s l2 h2)) = .ok (.str (cutL s l1 h1 ++ cutL s l2 h2)) := fun l1 h1 l2 h2 => dAdd_str (by have := cl l1 h1; have := cl l2 h2; unfold line; omega)
  have a4 : ∀ l1 h1, dAdd (.str (cutL s l1 h1)) (.str [c]) = .ok (.str (cutL s l1 h1 ++ [c])) := fun l1 h1 => dAdd_str (by have := cl l1 h1; unfold line; simp; omega)
  have a5 : ∀ l1 h1 l2 h2, dAdd (.str (cutL s l1 h1 ++ [c])) (.str (cutL s l2 h2)) = .ok (.str ((cutL s l1 h1 ++ [c]) ++ cutL s l2 h2)) := fun l1 h1 l2 h2 => dAdd_str (by have := cl l1 h1; have := cl l2 h2; unfold line; simp; omega)
  have len2 : ∀ l1 h1 l2 h2, (cutL s l1 h1 ++ cutL s l2 h2).length ≤ 2 * s.length + 1 := fun l1 h1 l2 h2 => by
    have := cl l1 h1; have := cl l2 h2; rw [List.length_append]; omega
  have len3 : ∀ l1 h1 l2 h2, ((cutL s l1 h1 ++ [c]) ++ cutL s l2 h2).length ≤ 2 * s.length + 1 := fun l1 h1 l2 h2 => by
    have := cl l1 h1; have := cl l2 h2; rw [List.length_append, List.length_append, List.length_singleton]; omega
  rcases (show n % 4 = 0 ∨ n % 4 = 1 ∨ n % 4 = 2 ∨ n % 4 = 3 by omega) with h | h | h | h
  · refine ⟨_, ?_, len3 none (some a) (some a) none⟩
    simp [d5, d6, d7, h, a3, a4, a5, -List.append_assoc]
  · refine ⟨_, ?_, len2 none (some a) (some (a + 1)) none⟩
    simp [d5, d6, d7, h, a3, a4, a5, -List.append_assoc]
  · refine ⟨_, ?_, len3 none (some a) (some (a + 1)) none⟩
    simp [d5, d6, d7, h, a3, a4, a5, -List.append_assoc]
  · refine ⟨_, ?_, len2 none (some a) (some (a + b)) none⟩
    simp [d5, d6, d7, h, a3, a4, a5, -List.append_assoc]
theorem glu_len_eq (c : Nat) : ∀ zs : List (List Nat), zs ≠ [] → (gluL c zs).length + 1 = (zs.map (·.length)).sum + zs.length
  | [], h => absurd rfl h
  | [z], _ => by simp [gluL]
  | z :: y :: r, _ => by
    have := glu_len_eq c (y :: r) (by simp)
    show (z ++ c :: gluL c (y :: r)).length + 1 = _
    simp only [List.length_append, List.length_cons, List.map_cons, List.sum_cons] at *
    omega
def bulkW (zs : List (List Nat)) : Nat := (zs.map (·.length)).sum + zs.length
theorem bulkW_app (a b : List (List Nat)) : bulkW (a ++ b) = bulkW a + bulkW b := by
  unfold bulkW
  rw [List.map_append, List.sum_append, List.length_append]
  omega
theorem bulkW_cut (a : List (List Nat)) (lo hi : Option Int) : bulkW (cutL a lo hi) ≤ bulkW a := by
  unfold cutL
  have h1 : ∀ (k : Nat) (l : List (List Nat)), bulkW (l.take k) ≤ bulkW l := fun k l => by
    have := bulkW_app (l.take k) (l.drop k)
    rw [List.take_append_drop] at this
    omega
  have h2 : ∀ (k : Nat) (l : List (List Nat)), bulkW (l.drop k) ≤ bulkW l := fun k l => by
    have := bulkW_app (l.take k) (l.drop k)
    rw [List.take_append_drop] at this
    omega
  exact Nat.le_trans (h1 _ _) (h2 _ _)
theorem bulkW_spl (c : Nat) (s : List Nat) : bulkW (splL c s) = s.length + 1 := by
  have := glu_len_eq c (splL c s) (splL_ne c s)
  rw [glu_spl] at this
  unfold bulkW
  omega
/-- a text bent -/
theorem l_bent_ok {s : List Nat} {n : Int} (hn : 0 ≤ n) (hs : s.length ≤ 20000) : ∃ z, f_l_bent [.str s, .int n] = .ok (.str z) ∧ z.length ≤ 3 * s.length + 3 := by
  obtain ⟨c, e2⟩ : ∃ c, atI [48, 49, 50, 57, 32, 42, 45, 97, 98, 122, 10] (n / 512 % 11) = some c := by
    obtain ⟨z, e1, _⟩ := atI_in (xs := [48, 49, 50, 57, 32, 42, 45, 97, 98, 122, 10]) (i := n / 512 % 11) (by omega) (by simp; omega)
    exact ⟨z, e1⟩
  show ∃ z, (p_l_bent [.d (.str s), .d (.int n), .no, .no, .no, .no, .no, .no, .no, .no]).bind finF = .ok (.str z) ∧ z.length ≤ 3 * s.length + 3
  unfold p_l_bent
  have d2 : dMod (.int n) (.int ((s.length : Int) + 1)) = .ok (.int (n % ((s.length : Int) + 1))) := dMod_ok (by omega)
  have d3 : dDiv (.int n) (.int 512) = .ok (.int (n / 512)) := dDiv_ok (by decide)
  have d4 : dMod (.int (n / 512)) (.int 11) = .ok (.int (n / 512 % 11)) := dMod_ok (by decide)
  have d5 : dDiv (.int n) (.int 16384) = .ok (.int (n / 16384)) := dDiv_ok (by decide)
  have pl : 0 < (splL 10 s).length := List.length_pos_iff.mpr (splL_ne 10 s)
  have d6 : dMod (.int (n / 16384)) (.int ((splL 10 s).length : Int)) = .ok (.int (n / 16384 % ((splL 10 s).length : Int))) := dMod_ok (by omega)
  have d7 : dDiv (.int n) (.int 1048576) = .ok (.int (n / 1048576)) := dDiv_ok (by decide)
  have d8 : dMod (.int (n / 1048576)) (.int 5) = .ok (.int (n / 1048576 % 5)) := dMod_ok (by decide)
  generalize n % ((s.length : Int) + 1) = a at d2
  generalize n / 16384 % ((splL 10 s).length : Int) = b at d6
  have sp := dSplit_ok (a := s) (c := 10) (by omega)
  have bw := bulkW_spl 10 s
  have sl := spl_len 10 s
  generalize splL 10 s = L at d6 sp bw sl pl
  have ln : dLen [.lst (L.map D.str)] = .ok (.int L.length) := by rw [dLen_lst, List.length_map]
  rw [seq_nx (ρ' := [.d (.str s), .d (.int n), .d (.int a), .no, .no, .no, .no, .no, .no, .no]) (by simp [d2])]
  rw [seq_nx (ρ' := [.d (.str s), .d (.int n), .d (.int a), .d (.str [c]), .no, .no, .no, .no, .no, .no]) (by simp [d3, d4, e2])]
  rw [seq_nx (ρ' := [.d (.str s), .d (.int n), .d (.int a), .d (.str [c]), .d (.lst (L.map .str)), .no, .no, .no, .no, .no]) (by simp [sp])]
  rw [seq_nx (ρ' := [.d (.str s), .d (.int n), .d (.int a), .d (.str [c]), .d (.lst (L.map .str)), .d (.int b), .no, .no, .no, .no]) (by
    simp only [setS_eq, op2_eq, calls_eq, aCons_eq, aNil_eq, vI_succ, vI_zero, cst_eq, bind_ok, d5, ln, d6, List.set_cons_succ, List.set_cons_zero])]
  rw [seq_nx (ρ' := [.d (.str s), .d (.int n), .d (.int a), .d (.str [c]), .d (.lst (L.map .str)), .d (.int b), .d (.str (cutL s none (some a))), .d (.str (cutL s (some (a + 1)) none)), .no, .no]) (by simp)]
  have cl := fun lo hi => cutL_len s lo hi
  have cl2 := fun lo hi => cutL_len L lo hi
  have a3 : ∀ l1 h1 l2 h2, dAdd (.str (cutL s l1 h1)) (.str (cutL s l2 h2)) = .ok (.str (cutL s l1 h1 ++ cutL s l2 h2)) := fun l1 h1 l2 h2 => dAdd_str (by have := cl l1 h1; have := cl l2 h2; unfold line; omega)
  have a4 : ∀ l1 h1, dAdd (.str (cutL s l1 h1)) (.str [c]) = .ok (.str (cutL s l1 h1 ++ [c])) := fun l1 h1 => dAdd_str (by have := cl l1 h1; unfold line; simp; omega)
  have a5 : ∀ l1 h1 l2 h2, dAdd (.str (cutL s l1 h1 ++ [c])) (.str (cutL s l2 h2)) = .ok (.str ((cutL s l1 h1 ++ [c]) ++ cutL s l2 h2)) := fun l1 h1 l2 h2 => dAdd_str (by have := cl l1 h1; have := cl l2 h2; unfold line; simp; omega)
  have len2 : ∀ l1 h1 l2 h2, (cutL s l1 h1 ++ cutL s l2 h2).length ≤ 3 * s.length + 3 := fun l1 h1 l2 h2 => by
    have := cl l1 h1; have := cl l2 h2; rw [List.length_append]; omega
  have len3 : ∀ l1 h1 l2 h2, ((cutL s l1 h1 ++ [c]) ++ cutL s l2 h2).length ≤ 3 * s.length + 3 := fun l1 h1 l2 h2 => by
    have := cl l1 h1; have := cl l2 h2; rw [List.length_append, List.length_append, List.length_singleton]; omega
  have cm : ∀ lo hi, cutL (L.map D.str) lo hi = (cutL L lo hi).map .str := fun lo hi => by
    unfold cutL
    rw [List.length_map, List.map_take, List.map_drop]
  have l2 : ∀ l1 h1 l2 h2, dAdd (.lst ((cutL L l1 h1).map .str)) (.lst ((cutL L l2 h2).map .str)) = .ok (.lst ((cutL L l1 h1 ++ cutL L l2 h2).map .str)) := fun l1 h1 l2 h2 => by
    rw [dAdd_lst (by have := cl2 l1 h1; have := cl2 l2 h2; rw [List.length_map, List.length_map]; unfold line; omega), List.map_append]
  have l3 : ∀ l1 h1 l2 h2 l3 h3, dAdd (.lst ((cutL L l1 h1 ++ cutL L l2 h2).map .str)) (.lst ((cutL L l3 h3).map .str)) = .ok (.lst ((cutL L l1 h1 ++ cutL L l2 h2 ++ cutL L l3 h3).map .str)) := fun l1 h1 l2 h2 l3 h3 => by
    rw [dAdd_lst (by have := cl2 l1 h1; have := cl2 l2 h2; have := cl2 l3 h3; rw [List.length_map, List.length_map, List.length_append]; unfold line; omega), List.map_append (l₂ := cutL L l3 h3)]
  have b2 : ∀ l1 h1 l2 h2, bulkW (cutL L l1 h1 ++ cutL L l2 h2) ≤ 2 * s.length + 2 := fun l1 h1 l2 h2 => by
    rw [bulkW_app]
    have := bulkW_cut L l1 h1
    have := bulkW_cut L l2 h2
    omega
  have b3 : ∀ l1 h1 l2 h2 l3 h3, bulkW (cutL L l1 h1 ++ cutL L l2 h2 ++ cutL L l3 h3) ≤ 3 * s.length + 3 := fun l1 h1 l2 h2 l3 h3 => by
    rw [bulkW_app]
    have := b2 l1 h1 l2 h2
    have := bulkW_cut L l3 h3
    omega
  have j : ∀ zs : List (List Nat), bulkW zs ≤ 3 * s.length + 3 → dJoin (.str [10]) [.lst (zs.map .str)] = .ok (.str (gluL 10 zs)) ∧ (gluL 10 zs).length ≤ 3 * s.length + 3 := fun zs hz => by
    have := glu_len 10 zs
    unfold bulkW at hz
    exact ⟨dJoin_glu 10 zs (by omega), by omega⟩
  obtain ⟨j3, j3l⟩ := j _ (b3 none (some b) (some b) (some (b + 1)) (some b) none)
  obtain ⟨j2, j2l⟩ := j _ (Nat.le_trans (b2 none (some b) (some (b + 1)) none) (by omega))
  let v1 := (cutL s none (some a) ++ [c]) ++ cutL s (some a) none
  let v2 := cutL s none (some a) ++ cutL s (some (a + 1)) none
  let v3 := (cutL s none (some a) ++ [c]) ++ cutL s (some (a + 1)) none
  rw [seq_nx (ρ' := [.d (.str s), .d (.int n), .d (.int a), .d (.str [c]), .d (.lst (L.map .str)), .d (.int b), .d (.str (cutL s none (some a))), .d (.str (cutL s (some (a + 1)) none)), .L [.str v1, .str v2, .str v3], .no]) (by
    unfold newLS
    simp only [aCons_eq, aNil_eq, op2_eq, vI_succ, vI_zero, bind_ok, slcV_eq, oNo_eq, oSome_eq, asI_int, dCut_str, a3, a4, a5, List.set_cons_succ, List.set_cons_zero]
    rfl)]
  rw [seq_nx (ρ' := [.d (.str s), .d (.int n), .d (.int a), .d (.str [c]), .d (.lst (L.map .str)), .d (.int b), .d (.str (cutL s none (some a))), .d (.str (cutL s (some (a + 1)) none)), .L [.str v1, .str v2, .str v3], .d (.lst ((cutL L none (some b) ++ cutL L (some b) (some (b + 1)) ++ cutL L (some b) none).map .str))]) (by
    simp only [setS_eq, op2_eq, vI_succ, vI_zero, cst_eq, bind_ok, slcV_eq, oNo_eq, oSome_eq, asI_int, dAdd_int, dCut_lst, cm, l2, l3, List.set_cons_succ, List.set_cons_zero])]
  rw [seq_nx (appS_run (xs := [.str v1, .str v2, .str v3]) (d := .str (gluL 10 (cutL L none (some b) ++ cutL L (some b) (some (b + 1)) ++ cutL L (some b) none))) rfl (by
    simp only [methS_eq, cst_eq, bind_ok, isStr_str, if_true, aCons_eq, aNil_eq, vI_succ, vI_zero, j3]) (by unfold line; simp))]
  rw [seq_nx (appS_run (xs := [.str v1, .str v2, .str v3, .str (gluL 10 (cutL L none (some b) ++ cutL L (some b) (some (b + 1)) ++ cutL L (some b) none))]) (d := .str (gluL 10 (cutL L none (some b) ++ cutL L (some (b + 1)) none))) rfl (by
    simp only [List.set_cons_succ, List.set_cons_zero, methS_eq, cst_eq, bind_ok, isStr_str, if_true, aCons_eq, aNil_eq, vI_succ, vI_zero, op2_eq, slcV_eq, oNo_eq, oSome_eq, asI_int, dAdd_int, dCut_lst, cm, l2, j2]) (by unfold line; simp))]
  generalize hA : gluL 10 (cutL L none (some b) ++ cutL L (some b) (some (b + 1)) ++ cutL L (some b) none) = A at *
  generalize hB : gluL 10 (cutL L none (some b) ++ cutL L (some (b + 1)) none) = B at *
  obtain ⟨z, e3, e4⟩ := atI_in (xs := [v1, v2, v3, A, B]) (i := n / 1048576 % 5) (by omega) (by simp; omega)
  refine ⟨z, ?_, ?_⟩
  · have ix : atI ([v1, v2, v3, A, B].map D.str) (n / 1048576 % 5) = some (.str z) := by
      rw [atI_map, e3]
      rfl
    have ix : atI [D.str v1, .str v2, .str v3, .str A, .str B] (n / 1048576 % 5) = some (.str z) := ix
    simp only [List.set_cons_succ, List.set_cons_zero, List.cons_append, List.nil_append, frzS_eq, frzE, List.getElem?_cons_succ, List.getElem?_cons_zero, retS_eq, op2_eq, vI_succ, vI_zero, cst_eq, bind_ok, d7, d8]
    show ((dIx (.lst [.str v1, .str v2, .str v3, .str A, .str B]) (.int (n / 1048576 % 5))).bind fun v => R.ok (Out.rt v)).bind finF = _
    have : dIx (.lst [.str v1, .str v2, .str v3, .str A, .str B]) (.int (n / 1048576 % 5)) = .ok (.str z) := by
      rw [dIx_lst, ix]
      rfl
    rw [this]
    rfl
  · simp only [List.mem_cons, List.mem_nil_iff, or_false, List.not_mem_nil] at e4
    rcases e4 with rfl | rfl | rfl | rfl | rfl
    · exact len3 _ _ _ _
    · exact len2 _ _ _ _
    · exact len3 _ _ _ _
    · exact j3l
    · exact j2l
end DD

namespace DD
open PySem PySem.Spec PyProof.Rows L2
@[simp] theorem tellV_eq64 (ψ : R D → R D) (a : Env → R D) (ρ : Env) : tellV ψ a ρ = ψ (a ρ) := id rfl
@[simp] theorem toldR_ok64 (d : D) : toldR (.ok d) = .ok (.tup [.str [116, 111, 108, 100], d]) := id rfl
@[simp] theorem toldR_er3 : toldR (.er 3) = .ok (.tup [.str [114, 101, 102, 117, 115, 101, 100], .int 3]) := id rfl
theorem ref3 : dNe (.tup [.str [114, 101, 102, 117, 115, 101, 100], .int 3]) (.tup [.str [114, 101, 102, 117, 115, 101, 100], .int 3]) = .ok (.bl false) := rfl
theorem good_tab {s : List Nat} {t : List Rule} (h : rdT s = some t) : f_l_good [.int 0, tabD t, .str s] = .ok (.bl true) := by
  obtain ⟨W, e⟩ := rdT_some h
  show (p_l_good [.d (.int 0), .d (tabD t), .d (.str s)]).bind finF = _
  unfold p_l_good
  have it := is_table_ok (tabD t)
  rw [isTab_iff.mpr W] at it
  have tt := table_text_ok (fun r hr => (W.ok r hr).sm) (by have := W.len; omega)
  rw [e] at tt
  simp [it, tt]
theorem good_smp {s : List Nat} {q : List Pair} (h : rdS s = some q) : f_l_good [.int 1, smpD q, .str s] = .ok (.bl true) := by
  obtain ⟨W, e⟩ := rdS_is h
  show (p_l_good [.d (.int 1), .d (smpD q), .d (.str s)]).bind finF = _
  unfold p_l_good
  have it := l_is_sample_ok W
  have tt := sample_text_ok (fun r hr => (W.ok r hr).sm) (by have := W.len; omega)
  rw [e] at tt
  have isa : isaV .tuple (vI 1) [.d (.int 1), .d (smpD q), .d (.str s)] = .ok (.bl true) := rfl
  simp [it, tt, isa]
theorem l_read_t (s : List Nat) : f_l_read [.int 0, .str s] = f_read_table [.str s] := by
  show (p_l_read [.d (.int 0), .d (.str s)]).bind finF = _
  unfold p_l_read
  simp only [seqS_eq, ifS_eq, tst_eq, op2_eq, vI_succ, vI_zero, cst_eq, bind_ok, dEq_int, asB_bl, retS_eq, callF_eq, aCons_eq, aNil_eq, List.length_cons, List.length_nil, if_true]
  show (((f_read_table [.str s]).bind fun v => R.ok (Out.rt v)).bind _).bind finF = _
  cases f_read_table [.str s] <;> rfl
theorem l_read_s (s : List Nat) : f_l_read [.int 1, .str s] = f_read_sample [.str s] := by
  show (p_l_read [.d (.int 1), .d (.str s)]).bind finF = _
  unfold p_l_read
  rw [seq_nx (ρ' := [.d (.int 1), .d (.str s)]) (by simp)]
  simp only [vI_succ, vI_zero, bind_ok, retS_eq, callF_eq, aCons_eq, aNil_eq, List.length_cons, List.length_nil, if_true]
  cases f_read_sample [.str s] <;> rfl
theorem k64_turn (a : Slot) (n k : Int) (kind : Int) (hk : kind = 0 ∨ kind = 1) {s : List Nat} (hs : s.length ≤ 20000) (x5 : Slot) : ∃ z y5, b_law_k64_1 [a, .d (.int n), .d (.int kind), .d (.str s), .d (.int k), x5] = .ok (.nx [a, .d (.int n), .d (.int kind), .d (.str z), .d (.int k), y5]) ∧ z.length ≤ 3 * s.length + 3 := by
  have ld := l_drawn n k
  have dn := (drawn_nn n k).1
  have d4 : dDiv (.int (drawn n k)) (.int 4) = .ok (.int (drawn n k / 4)) := dDiv_ok (by decide)
  obtain ⟨z, e1, hz⟩ := l_bent_ok (s := s) (n := drawn n k / 4) (by omega) hs
  have mt2 : ∀ a b : D, mkT [a, b] = .ok (.tup [a, b]) := fun a b => mkT_small (by simp)
  suffices h : ∃ y5, b_law_k64_1 [a, .d (.int n), .d (.int kind), .d (.str s), .d (.int k), x5] = .ok (.nx [a, .d (.int n), .d (.int kind), .d (.str z), .d (.int k), y5]) by
    obtain ⟨y5, e⟩ := h
    exact ⟨z, y5, e, hz⟩
  unfold b_law_k64_1
  rw [seq_nx (ρ' := [a, .d (.int n), .d (.int kind), .d (.str z), .d (.int k), x5]) (by simp [ld, d4, e1])]
  rcases hk with rfl | rfl
  · have rt := read_table_ok (s := z) (by omega)
    cases h : rdT z with
    | none =>
      rw [h] at rt
      simp only at rt
      refine ⟨.d (.tup [.str [114, 101, 102, 117, 115, 101, 100], .int 3]), ?_⟩
      rw [seq_nx (ρ' := [a, .d (.int n), .d (.int 0), .d (.str z), .d (.int k), .d (.tup [.str [114, 101, 102, 117, 115, 101, 100], .int 3])]) (by simp [l_read_t, rt])]
      simp [mt2, ref3]
    | some t =>
      rw [h] at rt
      simp only at rt
      refine ⟨.d (.tup [.str [116, 111, 108, 100], tabD t]), ?_⟩
      rw [seq_nx (ρ' := [a, .d (.int n), .d (.int 0), .d (.str z), .d (.int k), .d (.tup [.str [116, 111, 108, 100], tabD t])]) (by simp [l_read_t, rt])]
      simp [good_tab h]
  · have rt := read_sample_ok (s := z) (by omega)
    cases h : rdS z with
    | none =>
      rw [h] at rt
      simp only at rt
      refine ⟨.d (.tup [.str [114, 101, 102, 117, 115, 101, 100], .int 3]), ?_⟩
      rw [seq_nx (ρ' := [a, .d (.int n), .d (.int 1), .d (.str z), .d (.int k), .d (.tup [.str [114, 101, 102, 117, 115, 101, 100], .int 3])]) (by simp [l_read_s, rt])]
      simp [mt2, ref3]
    | some t =>
      rw [h] at rt
      simp only at rt
      refine ⟨.d (.tup [.str [116, 111, 108, 100], smpD t]), ?_⟩
      rw [seq_nx (ρ' := [a, .d (.int n), .d (.int 1), .d (.str z), .d (.int k), .d (.tup [.str [116, 111, 108, 100], smpD t])]) (by simp [l_read_s, rt])]
      simp [good_smp h]
theorem k64_loop (a : Slot) (n : Int) (kind : Int) (hk : kind = 0 ∨ kind = 1) : ∀ (ks : List Int) (s : List Nat) (x4 x5 : Slot), (s.length + 2) * 3 ^ ks.length ≤ 50000 →
    ∃ ρ', forF (to1 4) b_law_k64_1 (ks.map D.int) [a, .d (.int n), .d (.int kind), .d (.str s), x4, x5] = .ok (.nx ρ')
  | [], s, x4, x5, _ => ⟨_, rfl⟩
  | k :: ks, s, x4, x5, hl => by
    rw [List.length_cons, Nat.pow_succ] at hl
    have p1 : 1 ≤ 3 ^ ks.length := Nat.one_le_pow _ _ (by omega)
    have h3 : (s.length + 2) * 3 ≤ 50000 := by
      have : (s.length + 2) * 3 * 1 ≤ (s.length + 2) * 3 * 3 ^ ks.length := Nat.mul_le_mul_left _ p1
      have e : (s.length + 2) * (3 ^ ks.length * 3) = (s.length + 2) * 3 * 3 ^ ks.length := by rw [Nat.mul_comm (3 ^ ks.length) 3, Nat.mul_assoc]
      omega
    obtain ⟨z, y5, e, hz⟩ := k64_turn a n k kind hk (s := s) (by omega) x5
    have hz2 : (z.length + 2) * 3 ^ ks.length ≤ 50000 := by
      have : (z.length + 2) * 3 ^ ks.length ≤ ((s.length + 2) * 3) * 3 ^ ks.length := Nat.mul_le_mul_right _ (by omega)
      have e : (s.length + 2) * (3 ^ ks.length * 3) = (s.length + 2) * 3 * 3 ^ ks.length := by rw [Nat.mul_comm (3 ^ ks.length) 3, Nat.mul_assoc]
      omega
    obtain ⟨ρ', e'⟩ := k64_loop a n kind hk ks z (.d (.int k)) y5 hz2
    refine ⟨ρ', ?_⟩
    rw [List.map_cons, forF_step rfl (.inl e), e']
theorem true_law_k64 (ns : List Int) (h : ns.length ≤ 63) : f_law_k64 [.scr ns] = .ok (.bl true) := by
  obtain ⟨t, e1, T⟩ := l_table (mixed ns 2) 6 (by omega)
  obtain ⟨q, e2, S⟩ := l_sample (mixed ns 1) (mixed_nn ns 1).1 6 (by omega)
  have e1 : f_l_table [.int (mixed ns 2), .int 6] = .ok (tabD t) := e1
  have e2 : f_l_sample [.int (mixed ns 1), .int 6] = .ok (smpD q) := e2
  have m0 : f_l_mixed [.scr ns, .int 0] = .ok (.int (mixed ns 0)) := l_mixed ns 0
  have m1 : f_l_mixed [.scr ns, .int 1] = .ok (.int (mixed ns 1)) := l_mixed ns 1
  have m2 : f_l_mixed [.scr ns, .int 2] = .ok (.int (mixed ns 2)) := l_mixed ns 2
  have nn := (mixed_nn ns 0).1
  generalize mixed ns 0 = n at m0 nn
  have W := T.wf (by omega)
  have V := S.wf (by omega)
  have tl := tabT_lenB W
  have ql := smpT_lenB V
  have tl2 := T.len
  have ql2 := S.len
  have tt := table_text_ok (t := t) (fun r hr => (W.ok r hr).sm) (by omega)
  have st := sample_text_ok (q := q) (fun r hr => (V.ok r hr).sm) (by omega)
  show (p_law_k64 [.d (.scr ns), .no, .no, .no, .no, .no]).bind finF = _
  unfold p_law_k64
  have d2 : dMod (.int n) (.int 2) = .ok (.int (n % 2)) := dMod_ok (by decide)
  have d4 : dDiv (.int n) (.int 4) = .ok (.int (n / 4)) := dDiv_ok (by decide)
  have d3 : dMod (.int (n / 4)) (.int 3) = .ok (.int (n / 4 % 3)) := dMod_ok (by decide)
  rw [seq_nx (ρ' := [.d (.scr ns), .d (.int n), .no, .no, .no, .no]) (by simp [m0])]
  rw [seq_nx (ρ' := [.d (.scr ns), .d (.int n), .d (.int (n % 2)), .no, .no, .no]) (by simp [d2])]
  rw [seq_nx (ρ' := [.d (.scr ns), .d (.int n), .d (.int (n % 2)), .d (.str (smpT q)), .no, .no]) (by simp [m1, e2, st])]
  have hk : n % 2 = 0 ∨ n % 2 = 1 := by omega
  obtain ⟨s, hs, e⟩ : ∃ s : List Nat, s.length ≤ 1824 ∧ (ifS (tst (op2 dEq (vI 2) (cst (.int 0)))) (setS 3 (callF 1 f_table_text (aCons (callF 2 f_l_table (aCons (callF 2 f_l_mixed (aCons (vI 0) (aCons (cst (.int 2)) (aNil)))) (aCons (cst (.int 6)) (aNil)))) (aNil)))) (skipS)) [.d (.scr ns), .d (.int n), .d (.int (n % 2)), .d (.str (smpT q)), .no, .no] = .ok (.nx [.d (.scr ns), .d (.int n), .d (.int (n % 2)), .d (.str s), .no, .no]) := by
    rcases hk with hk | hk
    · exact ⟨tabT t, by omega, by simp [hk, m2, e1, tt]⟩
    · exact ⟨smpT q, by omega, by simp [hk]⟩
  rw [seq_nx e]
  obtain ⟨r, hr⟩ : ∃ r : Nat, 1 + n / 4 % 3 = r := ⟨(1 + n / 4 % 3).toNat, by omega⟩
  have hr3 : r ≤ 3 := by omega
  have r1 : dRng1 [.int r] = .ok (rngL 0 r) := dRng1_ok (by unfold line; omega)
  obtain ⟨ρ', f1⟩ := k64_loop (.d (.scr ns)) n (n % 2) hk ((List.range r).map fun i => (0 : Int) + (i : Nat)) s .no .no (by
    rw [List.length_map, List.length_range]
    have : 3 ^ r ≤ 3 ^ 3 := Nat.pow_le_pow_right (by omega) hr3
    have : (s.length + 2) * 3 ^ r ≤ (1824 + 2) * 3 ^ 3 := Nat.mul_le_mul (by omega) this
    omega)
  rw [seq_nx (by
    simp only [forS_eq, itR_eq, aCons_eq, aNil_eq, op2_eq, cst_eq, vI_succ, vI_zero, bind_ok, d4, d3, dAdd_int, hr, r1]
    rw [rngL_eq]
    exact f1)]
  rfl
end DD

namespace DD
open PySem PySem.Spec PyProof.Rows L2
/-! ### the text of dialrules_k64_whole_nothing_else_read -/
def topS (i : Nat) : Stmt := PySem.Challenge.pw_dialrules_k64_whole_nothing_else_read.main.body.getD i (.Pass ⟨0, 0, 0, 0⟩)
structure Bi (mg : Str → Option Value) : Prop where
  b_all : mg "all" = none
  b_bool : mg "bool" = none
  b_int : mg "int" = none
  b_isinstance : mg "isinstance" = none
  b_len : mg "len" = none
  b_max : mg "max" = none
  b_min : mg "min" = none
  b_range : mg "range" = none
  b_set : mg "set" = none
  b_sorted : mg "sorted" = none
  b_str : mg "str" = none
  b_tuple : mg "tuple" = none
  b_zip : mg "zip" = none
  c_EMPTY : ∃ u, mg "EMPTY" = some u ∧ RelV (.str ⟨([42] : List Nat).toArray⟩) u
  c_FIGURES : ∃ u, mg "FIGURES" = some u ∧ RelV (.str ⟨([48, 49, 50, 51, 52, 53, 54, 55, 56, 57] : List Nat).toArray⟩) u
  c_LETTERS : ∃ u, mg "LETTERS" = some u ∧ RelV (.str ⟨([97, 98, 99, 100, 101, 102, 103, 104, 105, 106, 107, 108, 109, 110, 111, 112, 113, 114, 115, 116, 117, 118, 119, 120, 121, 122] : List Nat).toArray⟩) u
  c_MOST_FIGURES : ∃ u, mg "MOST_FIGURES" = some u ∧ RelV (.int 12) u
  c_MOST_RULES : ∃ u, mg "MOST_RULES" = some u ∧ RelV (.int 30) u
  c_MOST_SAMPLE : ∃ u, mg "MOST_SAMPLE" = some u ∧ RelV (.int 16) u
  c_MOST_WORD : ∃ u, mg "MOST_WORD" = some u ∧ RelV (.int 4) u
  c_NOT_GOOD : ∃ u, mg "NOT_GOOD" = some u ∧ RelV (.str ⟨([45] : List Nat).toArray⟩) u
  c_ROW_END : ∃ u, mg "ROW_END" = some u ∧ RelV (.str ⟨([10] : List Nat).toArray⟩) u
structure Er [Glo] (K : PySem.W.Frag) (mg : Str → Option Value) : Prop where
  e_NoText : ErrIn K mg "NoText" (Glo.adr 3)
section
variable {P : Program} {w : World} {K : PySem.W.Frag} {mg : Str → Option Value} {base : Heap}
/-! are_figures -/
abbrev s_are_figures : Stmt := topS 12
abbrev N_are_figures : List Str := ["thing", "least", "most", "sign"]
theorem sc_are_figures : FnScope ["thing", "least", "most", "sign"] ["thing", "least", "most"] (defScope s_are_figures) := ⟨rfl, rfl, rfl, by decide +kernel, rfl, by decide +kernel, by decide +kernel⟩
theorem k_are_figures_thing : (defScope s_are_figures).names.lookup ("thing" : Str) = some NameKind.local := by decide +kernel
theorem k_are_figures_least : (defScope s_are_figures).names.lookup ("least" : Str) = some NameKind.local := by decide +kernel
theorem k_are_figures_most : (defScope s_are_figures).names.lookup ("most" : Str) = some NameKind.local := by decide +kernel
theorem g_are_figures_all : (defScope s_are_figures).names.lookup ("all" : Str) = some NameKind.globalImplicit := by decide +kernel
theorem g_are_figures_isinstance : (defScope s_are_figures).names.lookup ("isinstance" : Str) = some NameKind.globalImplicit := by decide +kernel
theorem g_are_figures_len : (defScope s_are_figures).names.lookup ("len" : Str) = some NameKind.globalImplicit := by decide +kernel
theorem g_are_figures_str : (defScope s_are_figures).names.lookup ("str" : Str) = some NameKind.globalImplicit := by decide +kernel
theorem fn_are_figures [Glo] (Bi : Bi mg) (Er : Er K mg) (D : DefIn K mg "are_figures" s_are_figures ["thing", "least", "most"])  : Fn P w K mg base "are_figures" 1 3 f_are_figures := by
  obtain ⟨ad, fd, F, hm, hb⟩ := D
  exact fn_mk (k := 0) F sc_are_figures hm hb fun cdv A outer s H E hr => ⟨_, ss_one (s_ret (d_and (d_isa .str g_are_figures_isinstance Bi.b_isinstance g_are_figures_str Bi.b_str (by decide +kernel) (by decide) (by decide) (dv 0 rfl (.inl k_are_figures_thing))) (d_and (d_chn od_cmp or_le ne_cmp od_cmp or_le ne_cmp (dv 1 rfl (.inl k_are_figures_least)) (d_callB cd_len cr_len g_are_figures_len Bi.b_len (by decide +kernel) (a_cons (dv 0 rfl (.inl k_are_figures_thing)) (a_nil))) (dv 2 rfl (.inl k_are_figures_most))) (d_one (d_callB cd_all (cr_all rfl) g_are_figures_all Bi.b_all (by decide +kernel) (a_cons (d_lc [("sign", 3)] rfl rfl sc_are_figures.nd (i_all (dv 0 rfl (.inl k_are_figures_thing))) (blkOk_by (N := N_are_figures) (sc := defScope s_are_figures) (own := [("sign", 3)]) (by decide +kernel)) noErG1 (fun _ _ _ _ _ => g_name (i := 3) sc_are_figures.nd rfl (.inl (by rfl))) (fun _ _ _ _ _ => ts_nil) (fun _ _ _ _ _ => d_cmp od_in or_in ne_in (dv 3 rfl (.inl (by rfl))) (d_gc (by rfl) Bi.c_FIGURES (fun _ => ⟨rfl, by decide, by decide +kernel⟩)) rfl)) (a_nil)))))))⟩
/-! is_number -/
abbrev s_is_number : Stmt := topS 13
abbrev N_is_number : List Str := ["thing"]
theorem sc_is_number : FnScope ["thing"] ["thing"] (defScope s_is_number) := ⟨rfl, rfl, rfl, by decide +kernel, rfl, by decide +kernel, by decide +kernel⟩
theorem k_is_number_thing : (defScope s_is_number).names.lookup ("thing" : Str) = some NameKind.local := by decide +kernel
theorem g_is_number_MOST_FIGURES : (defScope s_is_number).names.lookup ("MOST_FIGURES" : Str) = some NameKind.globalImplicit := by decide +kernel
theorem g_is_number_are_figures : (defScope s_is_number).names.lookup ("are_figures" : Str) = some NameKind.globalImplicit := by decide +kernel
theorem fn_is_number [Glo] (Bi : Bi mg) (Er : Er K mg) (D : DefIn K mg "is_number" s_is_number ["thing"]) (F_are_figures : Fn P w K mg base "are_figures" 1 3 f_are_figures) : Fn P w K mg base "is_number" 2 1 f_is_number := by
  obtain ⟨ad, fd, F, hm, hb⟩ := D
  exact fn_mk (k := 1) F sc_is_number hm hb fun cdv A outer s H E hr => ⟨_, ss_one (s_ret (d_call F_are_figures (hr.mono (by decide)) g_is_number_are_figures px (a_cons (dv 0 rfl (.inl k_is_number_thing)) (a_cons (d_int) (a_cons (d_gc g_is_number_MOST_FIGURES Bi.c_MOST_FIGURES (fun _ => rfl)) (a_nil))))))⟩
/-! is_word -/
abbrev s_is_word : Stmt := topS 14
abbrev N_is_word : List Str := ["thing", "sign"]
theorem sc_is_word : FnScope ["thing", "sign"] ["thing"] (defScope s_is_word) := ⟨rfl, rfl, rfl, by decide +kernel, rfl, by decide +kernel, by decide +kernel⟩
theorem k_is_word_thing : (defScope s_is_word).names.lookup ("thing" : Str) = some NameKind.local := by decide +kernel
theorem g_is_word_MOST_WORD : (defScope s_is_word).names.lookup ("MOST_WORD" : Str) = some NameKind.globalImplicit := by decide +kernel
theorem g_is_word_all : (defScope s_is_word).names.lookup ("all" : Str) = some NameKind.globalImplicit := by decide +kernel
theorem g_is_word_isinstance : (defScope s_is_word).names.lookup ("isinstance" : Str) = some NameKind.globalImplicit := by decide +kernel
theorem g_is_word_len : (defScope s_is_word).names.lookup ("len" : Str) = some NameKind.globalImplicit := by decide +kernel
theorem g_is_word_str : (defScope s_is_word).names.lookup ("str" : Str) = some NameKind.globalImplicit := by decide +kernel
theorem fn_is_word [Glo] (Bi : Bi mg) (Er : Er K mg) (D : DefIn K mg "is_word" s_is_word ["thing"])  : Fn P w K mg base "is_word" 1 1 f_is_word := by
  obtain ⟨ad, fd, F, hm, hb⟩ := D
  exact fn_mk (k := 0) F sc_is_word hm hb fun cdv A outer s H E hr => ⟨_, ss_one (s_ret (d_and (d_isa .str g_is_word_isinstance Bi.b_isinstance g_is_word_str Bi.b_str (by decide +kernel) (by decide) (by decide) (dv 0 rfl (.inl k_is_word_thing))) (d_and (d_chn od_cmp or_le ne_cmp od_cmp or_le ne_cmp (d_int) (d_callB cd_len cr_len g_is_word_len Bi.b_len (by decide +kernel) (a_cons (dv 0 rfl (.inl k_is_word_thing)) (a_nil))) (d_gc g_is_word_MOST_WORD Bi.c_MOST_WORD (fun _ => rfl))) (d_one (d_callB cd_all (cr_all rfl) g_is_word_all Bi.b_all (by decide +kernel) (a_cons (d_lc [("sign", 1)] rfl rfl sc_is_word.nd (i_all (dv 0 rfl (.inl k_is_word_thing))) (blkOk_by (N := N_is_word) (sc := defScope s_is_word) (own := [("sign", 1)]) (by decide +kernel)) noErG1 (fun _ _ _ _ _ => g_name (i := 1) sc_is_word.nd rfl (.inl (by rfl))) (fun _ _ _ _ _ => ts_nil) (fun _ _ _ _ _ => d_cmp od_in or_in ne_in (dv 1 rfl (.inl (by rfl))) (d_gc (by rfl) Bi.c_LETTERS (fun _ => ⟨rfl, by decide, by decide +kernel⟩)) rfl)) (a_nil)))))))⟩
/-! is_rule -/
abbrev s_is_rule : Stmt := topS 15
abbrev N_is_rule : List Str := ["thing"]
theorem sc_is_rule : FnScope ["thing"] ["thing"] (defScope s_is_rule) := ⟨rfl, rfl, rfl, by decide +kernel, rfl, by decide +kernel, by decide +kernel⟩
theorem k_is_rule_thing : (defScope s_is_rule).names.lookup ("thing" : Str) = some NameKind.local := by decide +kernel
theorem g_is_rule_MOST_FIGURES : (defScope s_is_rule).names.lookup ("MOST_FIGURES" : Str) = some NameKind.globalImplicit := by decide +kernel
theorem g_is_rule_are_figures : (defScope s_is_rule).names.lookup ("are_figures" : Str) = some NameKind.globalImplicit := by decide +kernel
theorem g_is_rule_bool : (defScope s_is_rule).names.lookup ("bool" : Str) = some NameKind.globalImplicit := by decide +kernel
theorem g_is_rule_int : (defScope s_is_rule).names.lookup ("int" : Str) = some NameKind.globalImplicit := by decide +kernel
theorem g_is_rule_is_word : (defScope s_is_rule).names.lookup ("is_word" : Str) = some NameKind.globalImplicit := by decide +kernel
theorem g_is_rule_isinstance : (defScope s_is_rule).names.lookup ("isinstance" : Str) = some NameKind.globalImplicit := by decide +kernel
theorem g_is_rule_len : (defScope s_is_rule).names.lookup ("len" : Str) = some NameKind.globalImplicit := by decide +kernel
theorem g_is_rule_max : (defScope s_is_rule).names.lookup ("max" : Str) = some NameKind.globalImplicit := by decide +kernel
theorem g_is_rule_str : (defScope s_is_rule).names.lookup ("str" : Str) = some NameKind.globalImplicit := by decide +kernel
theorem g_is_rule_tuple : (defScope s_is_rule).names.lookup ("tuple" : Str) = some NameKind.globalImplicit := by decide +kernel
theorem fn_is_rule [Glo] (Bi : Bi mg) (Er : Er K mg) (D : DefIn K mg "is_rule" s_is_rule ["thing"]) (F_are_figures : Fn P w K mg base "are_figures" 1 3 f_are_figures) (F_is_word : Fn P w K mg base "is_word" 1 1 f_is_word) : Fn P w K mg base "is_rule" 2 1 f_is_rule := by
  obtain ⟨ad, fd, F, hm, hb⟩ := D
  exact fn_mk (k := 1) F sc_is_rule hm hb fun cdv A outer s H E hr => ⟨_, ss_cons (s_if (t_w (w_or (t_not (t_val (d_isa .tuple g_is_rule_isinstance Bi.b_isinstance g_is_rule_tuple Bi.b_tuple (by decide +kernel) (by decide) (by decide) (dv 0 rfl (.inl k_is_rule_thing))))) (w_or (t_cmp od_ne (op_neD hr.units) ne_ne (d_callB cd_len cr_len g_is_rule_len Bi.b_len (by decide +kernel) (a_cons (dv 0 rfl (.inl k_is_rule_thing)) (a_nil))) (d_int) (nomark _)) (w_or1 (t_not (t_val (d_call F_are_figures (hr.mono (by decide)) g_is_rule_are_figures px (a_cons (d_ix (dv 0 rfl (.inl k_is_rule_thing)) (d_int)) (a_cons (d_int) (a_cons (d_gc g_is_rule_MOST_FIGURES Bi.c_MOST_FIGURES (fun _ => rfl)) (a_nil))))))))))) (ss_one (s_ret (d_bl))) (ss_nil)) (ss_cons (s_if (t_w (w_or (t_not (t_val (d_isa .int g_is_rule_isinstance Bi.b_isinstance g_is_rule_int Bi.b_int (by decide +kernel) (by decide) (by decide) (d_ix (dv 0 rfl (.inl k_is_rule_thing)) (d_int))))) (w_or (t_val (d_isa .bool g_is_rule_isinstance Bi.b_isinstance g_is_rule_bool Bi.b_bool (by decide +kernel) (by decide) (by decide) (d_ix (dv 0 rfl (.inl k_is_rule_thing)) (d_int)))) (w_or1 (t_not (t_val (d_isa .str g_is_rule_isinstance Bi.b_isinstance g_is_rule_str Bi.b_str (by decide +kernel) (by decide) (by decide) (d_ix (dv 0 rfl (.inl k_is_rule_thing)) (d_int))))))))) (ss_one (s_ret (d_bl))) (ss_nil)) (ss_cons (s_if (t_cmp od_eq (op_eqD hr.units) ne_eq (d_ix (dv 0 rfl (.inl k_is_rule_thing)) (d_int)) (d_int) (nomark _)) (ss_one (s_ret (d_cmp od_eq (op_eqD hr.units) ne_eq (d_ix (dv 0 rfl (.inl k_is_rule_thing)) (d_int)) (d_str []) (nomark _)))) (ss_nil)) (ss_one (s_ret (d_and (d_chn od_cmp or_le ne_cmp od_cmp or_le ne_cmp (d_callB cd_max2 (call_max2 rfl) g_is_rule_max Bi.b_max (by decide +kernel) (a_cons (d_int) (a_cons (d_callB cd_len cr_len g_is_rule_len Bi.b_len (by decide +kernel) (a_cons (d_ix (dv 0 rfl (.inl k_is_rule_thing)) (d_int)) (a_nil))) (a_nil)))) (d_ix (dv 0 rfl (.inl k_is_rule_thing)) (d_int)) (d_gc g_is_rule_MOST_FIGURES Bi.c_MOST_FIGURES (fun _ => rfl))) (d_one (d_call F_is_word (hr.mono (by decide)) g_is_rule_is_word px (a_cons (d_ix (dv 0 rfl (.inl k_is_rule_thing)) (d_int)) (a_nil)))))))))⟩
/-! is_table -/
abbrev s_is_table : Stmt := topS 16
abbrev N_is_table : List Str := ["thing", "part", "one", "other"]
theorem sc_is_table : FnScope ["thing", "part", "one", "other"] ["thing"] (defScope s_is_table) := ⟨rfl, rfl, rfl, by decide +kernel, rfl, by decide +kernel, by decide +kernel⟩
theorem k_is_table_thing : (defScope s_is_table).names.lookup ("thing" : Str) = some NameKind.local := by decide +kernel
theorem g_is_table_MOST_RULES : (defScope s_is_table).names.lookup ("MOST_RULES" : Str) = some NameKind.globalImplicit := by decide +kernel
theorem g_is_table_all : (defScope s_is_table).names.lookup ("all" : Str) = some NameKind.globalImplicit := by decide +kernel
theorem g_is_table_isinstance : (defScope s_is_table).names.lookup ("isinstance" : Str) = some NameKind.globalImplicit := by decide +kernel
theorem g_is_table_len : (defScope s_is_table).names.lookup ("len" : Str) = some NameKind.globalImplicit := by decide +kernel
theorem g_is_table_tuple : (defScope s_is_table).names.lookup ("tuple" : Str) = some NameKind.globalImplicit := by decide +kernel
theorem g_is_table_zip : (defScope s_is_table).names.lookup ("zip" : Str) = some NameKind.globalImplicit := by decide +kernel
theorem fn_is_table [Glo] (Bi : Bi mg) (Er : Er K mg) (D : DefIn K mg "is_table" s_is_table ["thing"]) (F_is_rule : Fn P w K mg base "is_rule" 2 1 f_is_rule) : Fn P w K mg base "is_table" 3 1 f_is_table := by
  obtain ⟨ad, fd, F, hm, hb⟩ := D
  exact fn_mk (k := 2) F sc_is_table hm hb fun cdv A outer s H E hr => ⟨_, ss_cons (s_if (t_w (w_or (t_not (t_val (d_isa .tuple g_is_table_isinstance Bi.b_isinstance g_is_table_tuple Bi.b_tuple (by decide +kernel) (by decide) (by decide) (dv 0 rfl (.inl k_is_table_thing))))) (w_or (t_cmp od_cmp or_gt ne_cmp (d_callB cd_len cr_len g_is_table_len Bi.b_len (by decide +kernel) (a_cons (dv 0 rfl (.inl k_is_table_thing)) (a_nil))) (d_gc g_is_table_MOST_RULES Bi.c_MOST_RULES (fun _ => rfl)) (nomark _)) (w_or1 (t_not (t_val (d_callB cd_all (cr_all rfl) g_is_table_all Bi.b_all (by decide +kernel) (a_cons (d_lc [("part", 1)] rfl rfl sc_is_table.nd (i_all (dv 0 rfl (.inl k_is_table_thing))) (blkOk_by (N := N_is_table) (sc := defScope s_is_table) (own := [("part", 1)]) (by decide +kernel)) noErG1 (fun _ _ _ _ _ => g_name (i := 1) sc_is_table.nd rfl (.inl (by rfl))) (fun _ _ _ _ _ => ts_nil) (fun _ _ _ _ _ => d_call0 F_is_rule (hr.mono (by decide)) (by rfl) (a_cons (dv 1 rfl (.inl (by rfl))) (a_nil)))) (a_nil))))))))) (ss_one (s_ret (d_bl))) (ss_nil)) (ss_one (s_ret (d_callB cd_all (cr_all rfl) g_is_table_all Bi.b_all (by decide +kernel) (a_cons (d_lc [("one", 2), ("other", 3)] rfl rfl sc_is_table.nd (i_zip g_is_table_zip Bi.b_zip (a_cons (d_slc (dv 0 rfl (.inl k_is_table_thing)) (o_no) (o_some (d_neg))) (a_cons (d_slc (dv 0 rfl (.inl k_is_table_thing)) (o_some (d_int)) (o_no)) (a_nil)))) (blkOk_by (N := N_is_table) (sc := defScope s_is_table) (own := [("one", 2), ("other", 3)]) (by decide +kernel)) noErGN (fun _ _ _ _ _ => g_tup [2, 3] (.cons (.cons .nil)) (pgs_cons (pg_name (i := 2) sc_is_table.nd rfl (.inl (by rfl))) (pgs_cons (pg_name (i := 3) sc_is_table.nd rfl (.inl (by rfl))) (pgs_nil)))) (fun _ _ _ _ _ => ts_nil) (fun _ _ _ _ _ => d_cmp od_cmp or_lt ne_cmp (d_ix (dv 2 rfl (.inl (by rfl))) (d_int)) (d_ix (dv 3 rfl (.inl (by rfl))) (d_int)) (nomark _))) (a_nil)))))⟩
/-! rows_text -/
abbrev s_rows_text : Stmt := topS 22
abbrev N_rows_text : List Str := ["rows", "row"]
theorem sc_rows_text : FnScope ["rows", "row"] ["rows"] (defScope s_rows_text) := ⟨rfl, rfl, rfl, by decide +kernel, rfl, by decide +kernel, by decide +kernel⟩
theorem k_rows_text_rows : (defScope s_rows_text).names.lookup ("rows" : Str) = some NameKind.local := by decide +kernel
theorem fn_rows_text [Glo] (Bi : Bi mg) (Er : Er K mg) (D : DefIn K mg "rows_text" s_rows_text ["rows"])  : Fn P w K mg base "rows_text" 1 1 f_rows_text := by
  obtain ⟨ad, fd, F, hm, hb⟩ := D
  exact fn_mk (k := 0) F sc_rows_text hm hb fun cdv A outer s H E hr => ⟨_, ss_one (s_ret (d_methS PySem.F.slot_str_join PySem.F.type_str_join md_join mt_join (d_str []) (a_cons (d_lc [("row", 1)] rfl rfl sc_rows_text.nd (i_all (dv 0 rfl (.inl k_rows_text_rows))) (blkOk_by (N := N_rows_text) (sc := defScope s_rows_text) (own := [("row", 1)]) (by decide +kernel)) noErG1 (fun _ _ _ _ _ => g_name (i := 1) sc_rows_text.nd rfl (.inl (by rfl))) (fun _ _ _ _ _ => ts_nil) (fun _ _ _ _ _ => d_op od_add or_add ne_add (d_methS PySem.F.slot_str_join PySem.F.type_str_join md_join mt_join (d_str [32]) (a_cons (dv 1 rfl (.inl (by rfl))) (a_nil))) (d_gc (by rfl) Bi.c_ROW_END (fun _ => ⟨rfl, by decide, by decide +kernel⟩)))) (a_nil))))⟩
/-! rule_words -/
abbrev s_rule_words : Stmt := topS 23
abbrev N_rule_words : List Str := ["rule", "prefix", "size", "word"]
theorem sc_rule_words : FnScope ["rule", "prefix", "size", "word"] ["rule"] (defScope s_rule_words) := ⟨rfl, rfl, rfl, by decide +kernel, rfl, by decide +kernel, by decide +kernel⟩
theorem k_rule_words_rule : (defScope s_rule_words).names.lookup ("rule" : Str) = some NameKind.local := by decide +kernel
theorem k_rule_words_prefix : (defScope s_rule_words).names.lookup ("prefix" : Str) = some NameKind.local := by decide +kernel
theorem k_rule_words_size : (defScope s_rule_words).names.lookup ("size" : Str) = some NameKind.local := by decide +kernel
theorem k_rule_words_word : (defScope s_rule_words).names.lookup ("word" : Str) = some NameKind.local := by decide +kernel
theorem g_rule_words_EMPTY : (defScope s_rule_words).names.lookup ("EMPTY" : Str) = some NameKind.globalImplicit := by decide +kernel
theorem g_rule_words_str : (defScope s_rule_words).names.lookup ("str" : Str) = some NameKind.globalImplicit := by decide +kernel
theorem fn_rule_words [Glo] (Bi : Bi mg) (Er : Er K mg) (D : DefIn K mg "rule_words" s_rule_words ["rule"])  : Fn P w K mg base "rule_words" 1 1 f_rule_words := by
  obtain ⟨ad, fd, F, hm, hb⟩ := D
  exact fn_mk (k := 0) F sc_rule_words hm hb fun cdv A outer s H E hr => ⟨_, ss_cons (s_asg (is := [1, 2, 3]) (is' := [1, 2, 3]) (dv 0 rfl (.inl k_rule_words_rule)) (g_tup [1, 2, 3] (.cons (.cons (.cons .nil))) (pgs_cons (pg_name (i := 1) sc_rule_words.nd rfl (.inl k_rule_words_prefix)) (pgs_cons (pg_name (i := 2) sc_rule_words.nd rfl (.inl k_rule_words_size)) (pgs_cons (pg_name (i := 3) sc_rule_words.nd rfl (.inl k_rule_words_word)) (pgs_nil)))))) (ss_cons (s_if (t_cmp od_eq (op_eqD hr.units) ne_eq (dv 1 rfl (.inl k_rule_words_prefix)) (d_str []) (nomark _)) (ss_one (s_set (i := 1) sc_rule_words.nd rfl (.inl k_rule_words_prefix) (d_gc g_rule_words_EMPTY Bi.c_EMPTY (fun _ => ⟨rfl, by decide, by decide +kernel⟩)))) (ss_nil)) (ss_cons (s_if (t_cmp od_eq (op_eqD hr.units) ne_eq (dv 2 rfl (.inl k_rule_words_size)) (d_int) (nomark _)) (ss_one (s_ret (d_lst (a_cons (dv 1 rfl (.inl k_rule_words_prefix)) (a_cons (d_callTy cd_str call_str_int g_rule_words_str Bi.b_str (by decide +kernel) (a_cons (dv 2 rfl (.inl k_rule_words_size)) (a_nil))) (a_nil)))))) (ss_nil)) (ss_one (s_ret (d_lst (a_cons (dv 1 rfl (.inl k_rule_words_prefix)) (a_cons (d_callTy cd_str call_str_int g_rule_words_str Bi.b_str (by decide +kernel) (a_cons (dv 2 rfl (.inl k_rule_words_size)) (a_nil))) (a_cons (dv 3 rfl (.inl k_rule_words_word)) (a_nil)))))))))⟩
/-! table_text -/
abbrev s_table_text : Stmt := topS 24
abbrev N_table_text : List Str := ["table", "rule"]
theorem sc_table_text : FnScope ["table", "rule"] ["table"] (defScope s_table_text) := ⟨rfl, rfl, rfl, by decide +kernel, rfl, by decide +kernel, by decide +kernel⟩
theorem k_table_text_table : (defScope s_table_text).names.lookup ("table" : Str) = some NameKind.local := by decide +kernel
theorem g_table_text_rows_text : (defScope s_table_text).names.lookup ("rows_text" : Str) = some NameKind.globalImplicit := by decide +kernel
theorem fn_table_text [Glo] (Bi : Bi mg) (Er : Er K mg) (D : DefIn K mg "table_text" s_table_text ["table"]) (F_rows_text : Fn P w K mg base "rows_text" 1 1 f_rows_text) (F_rule_words : Fn P w K mg base "rule_words" 1 1 f_rule_words) : Fn P w K mg base "table_text" 2 1 f_table_text := by
  obtain ⟨ad, fd, F, hm, hb⟩ := D
  exact fn_mk (k := 1) F sc_table_text hm hb fun cdv A outer s H E hr => ⟨_, ss_one (s_ret (d_call F_rows_text (hr.mono (by decide)) g_table_text_rows_text px (a_cons (d_lc [("rule", 1)] rfl rfl sc_table_text.nd (i_all (dv 0 rfl (.inl k_table_text_table))) (blkOk_by (N := N_table_text) (sc := defScope s_table_text) (own := [("rule", 1)]) (by decide +kernel)) noErG1 (fun _ _ _ _ _ => g_name (i := 1) sc_table_text.nd rfl (.inl (by rfl))) (fun _ _ _ _ _ => ts_nil) (fun _ _ _ _ _ => d_call0 F_rule_words (hr.mono (by decide)) (by rfl) (a_cons (dv 1 rfl (.inl (by rfl))) (a_nil)))) (a_nil))))⟩
/-! sample_text -/
abbrev s_sample_text : Stmt := topS 25
abbrev N_sample_text : List Str := ["sample", "rows", "number", "word"]
theorem sc_sample_text : FnScope ["sample", "rows", "number", "word"] ["sample"] (defScope s_sample_text) := ⟨rfl, rfl, rfl, by decide +kernel, rfl, by decide +kernel, by decide +kernel⟩
theorem k_sample_text_sample : (defScope s_sample_text).names.lookup ("sample" : Str) = some NameKind.local := by decide +kernel
theorem k_sample_text_rows : (defScope s_sample_text).names.lookup ("rows" : Str) = some NameKind.local := by decide +kernel
theorem k_sample_text_number : (defScope s_sample_text).names.lookup ("number" : Str) = some NameKind.local := by decide +kernel
theorem k_sample_text_word : (defScope s_sample_text).names.lookup ("word" : Str) = some NameKind.local := by decide +kernel
theorem g_sample_text_NOT_GOOD : (defScope s_sample_text).names.lookup ("NOT_GOOD" : Str) = some NameKind.globalImplicit := by decide +kernel
theorem g_sample_text_rows_text : (defScope s_sample_text).names.lookup ("rows_text" : Str) = some NameKind.globalImplicit := by decide +kernel
theorem fn_sample_text [Glo] (Bi : Bi mg) (Er : Er K mg) (D : DefIn K mg "sample_text" s_sample_text ["sample"]) (F_rows_text : Fn P w K mg base "rows_text" 1 1 f_rows_text) : Fn P w K mg base "sample_text" 2 1 f_sample_text := by
  obtain ⟨ad, fd, F, hm, hb⟩ := D
  exact fn_mk (k := 1) F sc_sample_text hm hb fun cdv A outer s H E hr => ⟨_, ss_cons (s_newL (i := 1) sc_sample_text.nd rfl (.inl k_sample_text_rows) (a_nil)) (ss_cons (s_for (is := [2, 3]) (passes_of rfl) rfl (i_all (dv 0 rfl (.inl k_sample_text_sample))) (g_tup [2, 3] (.cons (.cons .nil)) (pgs_cons (pg_name (i := 2) sc_sample_text.nd rfl (.inl k_sample_text_number)) (pgs_cons (pg_name (i := 3) sc_sample_text.nd rfl (.inl k_sample_text_word)) (pgs_nil)))) noErGN (ss_cons (s_if (t_cmp od_isN op_isN ne_isN (dv 3 rfl (.inl k_sample_text_word)) (d_non) (nomark _)) (ss_one (s_set (i := 3) sc_sample_text.nd rfl (.inl k_sample_text_word) (d_gc g_sample_text_NOT_GOOD Bi.c_NOT_GOOD (fun _ => ⟨rfl, by decide, by decide +kernel⟩)))) (ss_nil)) (ss_one (s_app (pe_var (i := 1) rfl (.inl k_sample_text_rows)) (d_lst (a_cons (dv 2 rfl (.inl k_sample_text_number)) (a_cons (dv 3 rfl (.inl k_sample_text_word)) (a_nil)))))))) (ss_one (s_frz 1 (s_ret (d_call F_rows_text (hr.mono (by decide)) g_sample_text_rows_text px (a_cons (dv 1 rfl (.inl k_sample_text_rows)) (a_nil)))))))⟩
/-! need -/
abbrev s_need : Stmt := topS 26
abbrev N_need : List Str := ["good"]
theorem sc_need : FnScope ["good"] ["good"] (defScope s_need) := ⟨rfl, rfl, rfl, by decide +kernel, rfl, by decide +kernel, by decide +kernel⟩
theorem k_need_good : (defScope s_need).names.lookup ("good" : Str) = some NameKind.local := by decide +kernel
theorem g_need_NoText : (defScope s_need).names.lookup ("NoText" : Str) = some NameKind.globalImplicit := by decide +kernel
theorem fn_need [Glo] (Bi : Bi mg) (Er : Er K mg) (D : DefIn K mg "need" s_need ["good"])  : Fn P w K mg base "need" 1 1 f_need := by
  obtain ⟨ad, fd, F, hm, hb⟩ := D
  exact fn_mk (k := 0) F sc_need hm hb fun cdv A outer s H E hr => ⟨_, ss_one (s_if (t_not (t_val (dv 0 rfl (.inl k_need_good)))) (ss_one (s_raise Er.e_NoText g_need_NoText rfl (takes_of rfl rfl rfl rfl))) (ss_nil))⟩
/-! rows_of -/
abbrev s_rows_of : Stmt := topS 27
abbrev N_rows_of : List Str := ["text", "rows", "row"]
theorem sc_rows_of : FnScope ["text", "rows", "row"] ["text"] (defScope s_rows_of) := ⟨rfl, rfl, rfl, by decide +kernel, rfl, by decide +kernel, by decide +kernel⟩
theorem k_rows_of_text : (defScope s_rows_of).names.lookup ("text" : Str) = some NameKind.local := by decide +kernel
theorem k_rows_of_rows : (defScope s_rows_of).names.lookup ("rows" : Str) = some NameKind.local := by decide +kernel
theorem g_rows_of_ROW_END : (defScope s_rows_of).names.lookup ("ROW_END" : Str) = some NameKind.globalImplicit := by decide +kernel
theorem g_rows_of_need : (defScope s_rows_of).names.lookup ("need" : Str) = some NameKind.globalImplicit := by decide +kernel
theorem fn_rows_of [Glo] (Bi : Bi mg) (Er : Er K mg) (D : DefIn K mg "rows_of" s_rows_of ["text"]) (F_need : Fn P w K mg base "need" 1 1 f_need) : Fn P w K mg base "rows_of" 2 1 f_rows_of := by
  obtain ⟨ad, fd, F, hm, hb⟩ := D
  exact fn_mk (k := 1) F sc_rows_of hm hb fun cdv A outer s H E hr => ⟨_, ss_cons (s_set (i := 1) sc_rows_of.nd rfl (.inl k_rows_of_rows) (d_methS PySem.F.slot_str_split PySem.F.type_str_split md_split mt_split (dv 0 rfl (.inl k_rows_of_text)) (a_cons (d_gc g_rows_of_ROW_END Bi.c_ROW_END (fun _ => ⟨rfl, by decide, by decide +kernel⟩)) (a_nil)))) (ss_cons (s_expr (d_call F_need (hr.mono (by decide)) g_rows_of_need px (a_cons (d_cmp od_eq (op_eqD hr.units) ne_eq (d_ix (dv 1 rfl (.inl k_rows_of_rows)) (d_neg)) (d_str []) (nomark _)) (a_nil)))) (ss_one (s_ret (d_lc [("row", 2)] rfl rfl sc_rows_of.nd (i_all (d_slc (dv 1 rfl (.inl k_rows_of_rows)) (o_no) (o_some (d_neg)))) (blkOk_by (N := N_rows_of) (sc := defScope s_rows_of) (own := [("row", 2)]) (by decide +kernel)) noErG1 (fun _ _ _ _ _ => g_name (i := 2) sc_rows_of.nd rfl (.inl (by rfl))) (fun _ _ _ _ _ => ts_nil) (fun _ _ _ _ _ => d_methS PySem.F.slot_str_split PySem.F.type_str_split md_split mt_split (dv 2 rfl (.inl (by rfl))) (a_cons (d_str [32]) (a_nil)))))))⟩
/-! rule_of -/
abbrev s_rule_of : Stmt := topS 28
abbrev N_rule_of : List Str := ["words", "prefix", "sign"]
theorem sc_rule_of : FnScope ["words", "prefix", "sign"] ["words"] (defScope s_rule_of) := ⟨rfl, rfl, rfl, by decide +kernel, rfl, by decide +kernel, by decide +kernel⟩
theorem k_rule_of_words : (defScope s_rule_of).names.lookup ("words" : Str) = some NameKind.local := by decide +kernel
theorem k_rule_of_prefix : (defScope s_rule_of).names.lookup ("prefix" : Str) = some NameKind.local := by decide +kernel
theorem g_rule_of_EMPTY : (defScope s_rule_of).names.lookup ("EMPTY" : Str) = some NameKind.globalImplicit := by decide +kernel
theorem g_rule_of_all : (defScope s_rule_of).names.lookup ("all" : Str) = some NameKind.globalImplicit := by decide +kernel
theorem g_rule_of_int : (defScope s_rule_of).names.lookup ("int" : Str) = some NameKind.globalImplicit := by decide +kernel
theorem g_rule_of_len : (defScope s_rule_of).names.lookup ("len" : Str) = some NameKind.globalImplicit := by decide +kernel
theorem g_rule_of_need : (defScope s_rule_of).names.lookup ("need" : Str) = some NameKind.globalImplicit := by decide +kernel
theorem fn_rule_of [Glo] (Bi : Bi mg) (Er : Er K mg) (D : DefIn K mg "rule_of" s_rule_of ["words"]) (F_need : Fn P w K mg base "need" 1 1 f_need) : Fn P w K mg base "rule_of" 2 1 f_rule_of := by
  obtain ⟨ad, fd, F, hm, hb⟩ := D
  exact fn_mk (k := 1) F sc_rule_of hm hb fun cdv A outer s H E hr => ⟨_, ss_cons (s_expr (d_call F_need (hr.mono (by decide)) g_rule_of_need px (a_cons (d_and (d_chn od_cmp or_le ne_cmp od_cmp or_le ne_cmp (d_int) (d_callB cd_len cr_len g_rule_of_len Bi.b_len (by decide +kernel) (a_cons (dv 0 rfl (.inl k_rule_of_words)) (a_nil))) (d_int)) (d_and (d_chn od_cmp or_le ne_cmp od_cmp or_le ne_cmp (d_int) (d_callB cd_len cr_len g_rule_of_len Bi.b_len (by decide +kernel) (a_cons (d_ix (dv 0 rfl (.inl k_rule_of_words)) (d_int)) (a_nil))) (d_int)) (d_one (d_callB cd_all (cr_all rfl) g_rule_of_all Bi.b_all (by decide +kernel) (a_cons (d_lc [("sign", 2)] rfl rfl sc_rule_of.nd (i_all (d_ix (dv 0 rfl (.inl k_rule_of_words)) (d_int))) (blkOk_by (N := N_rule_of) (sc := defScope s_rule_of) (own := [("sign", 2)]) (by decide +kernel)) noErG1 (fun _ _ _ _ _ => g_name (i := 2) sc_rule_of.nd rfl (.inl (by rfl))) (fun _ _ _ _ _ => ts_nil) (fun _ _ _ _ _ => d_cmp od_in or_in ne_in (dv 2 rfl (.inl (by rfl))) (d_gc (by rfl) Bi.c_FIGURES (fun _ => ⟨rfl, by decide, by decide +kernel⟩)) rfl)) (a_nil)))))) (a_nil)))) (ss_cons (s_set (i := 1) sc_rule_of.nd rfl (.inl k_rule_of_prefix) (d_ix (dv 0 rfl (.inl k_rule_of_words)) (d_int))) (ss_cons (s_if (t_cmp od_eq (op_eqD hr.units) ne_eq (dv 1 rfl (.inl k_rule_of_prefix)) (d_gc g_rule_of_EMPTY Bi.c_EMPTY (fun _ => ⟨rfl, by decide, by decide +kernel⟩)) (nomark _)) (ss_one (s_set (i := 1) sc_rule_of.nd rfl (.inl k_rule_of_prefix) (d_str []))) (ss_nil)) (ss_one (s_ret (d_tup (a_cons (dv 1 rfl (.inl k_rule_of_prefix)) (a_cons (d_callTy cd_int2 cr_intG g_rule_of_int Bi.b_int (by decide +kernel) (a_cons (d_ix (dv 0 rfl (.inl k_rule_of_words)) (d_int)) (a_nil))) (a_cons (d_ix (d_op od_add or_add ne_add (dv 0 rfl (.inl k_rule_of_words)) (d_lst (a_cons (d_str []) (a_nil)))) (d_int)) (a_nil)))))))))⟩
/-! read_table -/
abbrev s_read_table : Stmt := topS 29
abbrev N_read_table : List Str := ["text", "found", "words"]
theorem sc_read_table : FnScope ["text", "found", "words"] ["text"] (defScope s_read_table) := ⟨rfl, rfl, rfl, by decide +kernel, rfl, by decide +kernel, by decide +kernel⟩
theorem k_read_table_text : (defScope s_read_table).names.lookup ("text" : Str) = some NameKind.local := by decide +kernel
theorem k_read_table_found : (defScope s_read_table).names.lookup ("found" : Str) = some NameKind.local := by decide +kernel
theorem g_read_table_is_table : (defScope s_read_table).names.lookup ("is_table" : Str) = some NameKind.globalImplicit := by decide +kernel
theorem g_read_table_need : (defScope s_read_table).names.lookup ("need" : Str) = some NameKind.globalImplicit := by decide +kernel
theorem g_read_table_rows_of : (defScope s_read_table).names.lookup ("rows_of" : Str) = some NameKind.globalImplicit := by decide +kernel
theorem g_read_table_table_text : (defScope s_read_table).names.lookup ("table_text" : Str) = some NameKind.globalImplicit := by decide +kernel
theorem g_read_table_tuple : (defScope s_read_table).names.lookup ("tuple" : Str) = some NameKind.globalImplicit := by decide +kernel
theorem fn_read_table [Glo] (Bi : Bi mg) (Er : Er K mg) (D : DefIn K mg "read_table" s_read_table ["text"]) (F_is_table : Fn P w K mg base "is_table" 3 1 f_is_table) (F_table_text : Fn P w K mg base "table_text" 2 1 f_table_text) (F_need : Fn P w K mg base "need" 1 1 f_need) (F_rows_of : Fn P w K mg base "rows_of" 2 1 f_rows_of) (F_rule_of : Fn P w K mg base "rule_of" 2 1 f_rule_of) : Fn P w K mg base "read_table" 4 1 f_read_table := by
  obtain ⟨ad, fd, F, hm, hb⟩ := D
  exact fn_mk (k := 3) F sc_read_table hm hb fun cdv A outer s H E hr => ⟨_, ss_cons (s_set (i := 1) sc_read_table.nd rfl (.inl k_read_table_found) (d_callTy cd_tuple call_tuple_of g_read_table_tuple Bi.b_tuple (by decide +kernel) (a_cons (d_lcX [("words", 2)] rfl rfl rfl (takes_of rfl rfl rfl rfl) rfl sc_read_table.nd (i_allx (d_call F_rows_of (hr.mono (by decide)) g_read_table_rows_of px (a_cons (dv 0 rfl (.inl k_read_table_text)) (a_nil)))) (blkOk_by (N := N_read_table) (sc := defScope s_read_table) (own := [("words", 2)]) (by decide +kernel)) noErG1 (fun _ _ _ _ _ => g_name (i := 2) sc_read_table.nd rfl (.inl (by rfl))) (fun _ _ _ _ _ => ts_nil) (fun _ _ _ _ _ _ hpX => d_call F_rule_of (hr.mono (by decide)) (by rfl) hpX (a_cons (dv 2 rfl (.inl (by rfl))) (a_nil)))) (a_nil)))) (ss_cons (s_expr (d_call F_need (hr.mono (by decide)) g_read_table_need px (a_cons (d_and (d_call F_is_table (hr.mono (by decide)) g_read_table_is_table px (a_cons (dv 1 rfl (.inl k_read_table_found)) (a_nil))) (d_one (d_cmp od_eq (op_eqD hr.units) ne_eq (d_call F_table_text (hr.mono (by decide)) g_read_table_table_text px (a_cons (dv 1 rfl (.inl k_read_table_found)) (a_nil))) (dv 0 rfl (.inl k_read_table_text)) (nomark _)))) (a_nil)))) (ss_one (s_ret (dv 1 rfl (.inl k_read_table_found)))))⟩
/-! pair_of -/
abbrev s_pair_of : Stmt := topS 30
abbrev N_pair_of : List Str := ["words"]
theorem sc_pair_of : FnScope ["words"] ["words"] (defScope s_pair_of) := ⟨rfl, rfl, rfl, by decide +kernel, rfl, by decide +kernel, by decide +kernel⟩
theorem k_pair_of_words : (defScope s_pair_of).names.lookup ("words" : Str) = some NameKind.local := by decide +kernel
theorem g_pair_of_NOT_GOOD : (defScope s_pair_of).names.lookup ("NOT_GOOD" : Str) = some NameKind.globalImplicit := by decide +kernel
theorem g_pair_of_is_number : (defScope s_pair_of).names.lookup ("is_number" : Str) = some NameKind.globalImplicit := by decide +kernel
theorem g_pair_of_is_word : (defScope s_pair_of).names.lookup ("is_word" : Str) = some NameKind.globalImplicit := by decide +kernel
theorem g_pair_of_len : (defScope s_pair_of).names.lookup ("len" : Str) = some NameKind.globalImplicit := by decide +kernel
theorem g_pair_of_need : (defScope s_pair_of).names.lookup ("need" : Str) = some NameKind.globalImplicit := by decide +kernel
theorem fn_pair_of [Glo] (Bi : Bi mg) (Er : Er K mg) (D : DefIn K mg "pair_of" s_pair_of ["words"]) (F_is_number : Fn P w K mg base "is_number" 2 1 f_is_number) (F_is_word : Fn P w K mg base "is_word" 1 1 f_is_word) (F_need : Fn P w K mg base "need" 1 1 f_need) : Fn P w K mg base "pair_of" 3 1 f_pair_of := by
  obtain ⟨ad, fd, F, hm, hb⟩ := D
  exact fn_mk (k := 2) F sc_pair_of hm hb fun cdv A outer s H E hr => ⟨_, ss_cons (s_expr (d_call F_need (hr.mono (by decide)) g_pair_of_need px (a_cons (d_and (d_cmp od_eq (op_eqD hr.units) ne_eq (d_callB cd_len cr_len g_pair_of_len Bi.b_len (by decide +kernel) (a_cons (dv 0 rfl (.inl k_pair_of_words)) (a_nil))) (d_int) (nomark _)) (d_one (d_call F_is_number (hr.mono (by decide)) g_pair_of_is_number px (a_cons (d_ix (dv 0 rfl (.inl k_pair_of_words)) (d_int)) (a_nil))))) (a_nil)))) (ss_cons (s_if (t_cmp od_eq (op_eqD hr.units) ne_eq (d_ix (dv 0 rfl (.inl k_pair_of_words)) (d_int)) (d_gc g_pair_of_NOT_GOOD Bi.c_NOT_GOOD (fun _ => ⟨rfl, by decide, by decide +kernel⟩)) (nomark _)) (ss_one (s_ret (d_tup (a_cons (d_ix (dv 0 rfl (.inl k_pair_of_words)) (d_int)) (a_cons (d_non) (a_nil)))))) (ss_nil)) (ss_cons (s_expr (d_call F_need (hr.mono (by decide)) g_pair_of_need px (a_cons (d_call F_is_word (hr.mono (by decide)) g_pair_of_is_word px (a_cons (d_ix (dv 0 rfl (.inl k_pair_of_words)) (d_int)) (a_nil))) (a_nil)))) (ss_one (s_ret (d_tup (a_cons (d_ix (dv 0 rfl (.inl k_pair_of_words)) (d_int)) (a_cons (d_ix (dv 0 rfl (.inl k_pair_of_words)) (d_int)) (a_nil))))))))⟩
/-! read_sample -/
abbrev s_read_sample : Stmt := topS 31
abbrev N_read_sample : List Str := ["text", "found", "words", "one", "other"]
theorem sc_read_sample : FnScope ["text", "found", "words", "one", "other"] ["text"] (defScope s_read_sample) := ⟨rfl, rfl, rfl, by decide +kernel, rfl, by decide +kernel, by decide +kernel⟩
theorem k_read_sample_text : (defScope s_read_sample).names.lookup ("text" : Str) = some NameKind.local := by decide +kernel
theorem k_read_sample_found : (defScope s_read_sample).names.lookup ("found" : Str) = some NameKind.local := by decide +kernel
theorem g_read_sample_MOST_SAMPLE : (defScope s_read_sample).names.lookup ("MOST_SAMPLE" : Str) = some NameKind.globalImplicit := by decide +kernel
theorem g_read_sample_all : (defScope s_read_sample).names.lookup ("all" : Str) = some NameKind.globalImplicit := by decide +kernel
theorem g_read_sample_len : (defScope s_read_sample).names.lookup ("len" : Str) = some NameKind.globalImplicit := by decide +kernel
theorem g_read_sample_need : (defScope s_read_sample).names.lookup ("need" : Str) = some NameKind.globalImplicit := by decide +kernel
theorem g_read_sample_rows_of : (defScope s_read_sample).names.lookup ("rows_of" : Str) = some NameKind.globalImplicit := by decide +kernel
theorem g_read_sample_tuple : (defScope s_read_sample).names.lookup ("tuple" : Str) = some NameKind.globalImplicit := by decide +kernel
theorem g_read_sample_zip : (defScope s_read_sample).names.lookup ("zip" : Str) = some NameKind.globalImplicit := by decide +kernel
theorem fn_read_sample [Glo] (Bi : Bi mg) (Er : Er K mg) (D : DefIn K mg "read_sample" s_read_sample ["text"]) (F_need : Fn P w K mg base "need" 1 1 f_need) (F_rows_of : Fn P w K mg base "rows_of" 2 1 f_rows_of) (F_pair_of : Fn P w K mg base "pair_of" 3 1 f_pair_of) : Fn P w K mg base "read_sample" 4 1 f_read_sample := by
  obtain ⟨ad, fd, F, hm, hb⟩ := D
  exact fn_mk (k := 3) F sc_read_sample hm hb fun cdv A outer s H E hr => ⟨_, ss_cons (s_set (i := 1) sc_read_sample.nd rfl (.inl k_read_sample_found) (d_callTy cd_tuple call_tuple_of g_read_sample_tuple Bi.b_tuple (by decide +kernel) (a_cons (d_lcX [("words", 2)] rfl rfl rfl (takes_of rfl rfl rfl rfl) rfl sc_read_sample.nd (i_allx (d_call F_rows_of (hr.mono (by decide)) g_read_sample_rows_of px (a_cons (dv 0 rfl (.inl k_read_sample_text)) (a_nil)))) (blkOk_by (N := N_read_sample) (sc := defScope s_read_sample) (own := [("words", 2)]) (by decide +kernel)) noErG1 (fun _ _ _ _ _ => g_name (i := 2) sc_read_sample.nd rfl (.inl (by rfl))) (fun _ _ _ _ _ => ts_nil) (fun _ _ _ _ _ _ hpX => d_call F_pair_of (hr.mono (by decide)) (by rfl) hpX (a_cons (dv 2 rfl (.inl (by rfl))) (a_nil)))) (a_nil)))) (ss_cons (s_expr (d_call F_need (hr.mono (by decide)) g_read_sample_need px (a_cons (d_and (d_cmp od_cmp or_le ne_cmp (d_callB cd_len cr_len g_read_sample_len Bi.b_len (by decide +kernel) (a_cons (dv 1 rfl (.inl k_read_sample_found)) (a_nil))) (d_gc g_read_sample_MOST_SAMPLE Bi.c_MOST_SAMPLE (fun _ => rfl)) (nomark _)) (d_one (d_callB cd_all (cr_all rfl) g_read_sample_all Bi.b_all (by decide +kernel) (a_cons (d_lc [("one", 3), ("other", 4)] rfl rfl sc_read_sample.nd (i_zip g_read_sample_zip Bi.b_zip (a_cons (d_slc (dv 1 rfl (.inl k_read_sample_found)) (o_no) (o_some (d_neg))) (a_cons (d_slc (dv 1 rfl (.inl k_read_sample_found)) (o_some (d_int)) (o_no)) (a_nil)))) (blkOk_by (N := N_read_sample) (sc := defScope s_read_sample) (own := [("one", 3), ("other", 4)]) (by decide +kernel)) noErGN (fun _ _ _ _ _ => g_tup [3, 4] (.cons (.cons .nil)) (pgs_cons (pg_name (i := 3) sc_read_sample.nd rfl (.inl (by rfl))) (pgs_cons (pg_name (i := 4) sc_read_sample.nd rfl (.inl (by rfl))) (pgs_nil)))) (fun _ _ _ _ _ => ts_nil) (fun _ _ _ _ _ => d_cmp od_cmp or_lt ne_cmp (d_ix (dv 3 rfl (.inl (by rfl))) (d_int)) (d_ix (dv 4 rfl (.inl (by rfl))) (d_int)) (nomark _))) (a_nil))))) (a_nil)))) (ss_one (s_ret (dv 1 rfl (.inl k_read_sample_found)))))⟩
/-! _law_cell_at -/
abbrev s_l_cell_at : Stmt := topS 33
abbrev N_l_cell_at : List Str := ["script", "k"]
theorem sc_l_cell_at : FnScope ["script", "k"] ["script", "k"] (defScope s_l_cell_at) := ⟨rfl, rfl, rfl, by decide +kernel, rfl, by decide +kernel, by decide +kernel⟩
theorem k_l_cell_at_script : (defScope s_l_cell_at).names.lookup ("script" : Str) = some NameKind.local := by decide +kernel
theorem k_l_cell_at_k : (defScope s_l_cell_at).names.lookup ("k" : Str) = some NameKind.local := by decide +kernel
theorem g_l_cell_at_len : (defScope s_l_cell_at).names.lookup ("len" : Str) = some NameKind.globalImplicit := by decide +kernel
theorem fn_l_cell_at [Glo] (Bi : Bi mg) (Er : Er K mg) (D : DefIn K mg "_law_cell_at" s_l_cell_at ["script", "k"])  : Fn P w K mg base "_law_cell_at" 1 2 f_l_cell_at := by
  obtain ⟨ad, fd, F, hm, hb⟩ := D
  exact fn_mk (k := 0) F sc_l_cell_at hm hb fun cdv A outer s H E hr => ⟨_, ss_cons (s_if (t_cmp od_cmp or_lt ne_cmp (dv 1 rfl (.inl k_l_cell_at_k)) (d_callB cd_len cr_len g_l_cell_at_len Bi.b_len (by decide +kernel) (a_cons (dv 0 rfl (.inl k_l_cell_at_script)) (a_nil))) (nomark _)) (ss_one (s_ret (d_ix (dv 0 rfl (.inl k_l_cell_at_script)) (dv 1 rfl (.inl k_l_cell_at_k))))) (ss_nil)) (ss_one (s_ret (d_int)))⟩
/-! _law_mixed -/
abbrev s_l_mixed : Stmt := topS 34
abbrev N_l_mixed : List Str := ["script", "k", "drawn"]
theorem sc_l_mixed : FnScope ["script", "k", "drawn"] ["script", "k"] (defScope s_l_mixed) := ⟨rfl, rfl, rfl, by decide +kernel, rfl, by decide +kernel, by decide +kernel⟩
theorem k_l_mixed_script : (defScope s_l_mixed).names.lookup ("script" : Str) = some NameKind.local := by decide +kernel
theorem k_l_mixed_k : (defScope s_l_mixed).names.lookup ("k" : Str) = some NameKind.local := by decide +kernel
theorem k_l_mixed_drawn : (defScope s_l_mixed).names.lookup ("drawn" : Str) = some NameKind.local := by decide +kernel
theorem g_l_mixed__law_cell_at : (defScope s_l_mixed).names.lookup ("_law_cell_at" : Str) = some NameKind.globalImplicit := by decide +kernel
theorem fn_l_mixed [Glo] (Bi : Bi mg) (Er : Er K mg) (D : DefIn K mg "_law_mixed" s_l_mixed ["script", "k"]) (F_l_cell_at : Fn P w K mg base "_law_cell_at" 1 2 f_l_cell_at) : Fn P w K mg base "_law_mixed" 2 2 f_l_mixed := by
  obtain ⟨ad, fd, F, hm, hb⟩ := D
  exact fn_mk (k := 1) F sc_l_mixed hm hb fun cdv A outer s H E hr => ⟨_, ss_cons (s_set (i := 2) sc_l_mixed.nd rfl (.inl k_l_mixed_drawn) (d_op od_mod op_mod ne_mod (d_op od_mul op_mul ne_mul (d_op od_add or_add ne_add (d_op od_add or_add ne_add (d_call F_l_cell_at (hr.mono (by decide)) g_l_mixed__law_cell_at px (a_cons (dv 0 rfl (.inl k_l_mixed_script)) (a_cons (dv 1 rfl (.inl k_l_mixed_k)) (a_nil)))) (d_op od_mul op_mul ne_mul (d_int) (dv 1 rfl (.inl k_l_mixed_k)))) (d_int)) (d_int)) (d_int))) (ss_one (s_ret (d_op od_mod op_mod ne_mod (d_op od_add or_add ne_add (d_op od_add or_add ne_add (d_op od_mul op_mul ne_mul (dv 2 rfl (.inl k_l_mixed_drawn)) (dv 2 rfl (.inl k_l_mixed_drawn))) (d_op od_mul op_mul ne_mul (d_int) (dv 2 rfl (.inl k_l_mixed_drawn)))) (dv 1 rfl (.inl k_l_mixed_k))) (d_int))))⟩
/-! _law_drawn -/
abbrev s_l_drawn : Stmt := topS 35
abbrev N_l_drawn : List Str := ["number", "k", "drawn"]
theorem sc_l_drawn : FnScope ["number", "k", "drawn"] ["number", "k"] (defScope s_l_drawn) := ⟨rfl, rfl, rfl, by decide +kernel, rfl, by decide +kernel, by decide +kernel⟩
theorem k_l_drawn_number : (defScope s_l_drawn).names.lookup ("number" : Str) = some NameKind.local := by decide +kernel
theorem k_l_drawn_k : (defScope s_l_drawn).names.lookup ("k" : Str) = some NameKind.local := by decide +kernel
theorem k_l_drawn_drawn : (defScope s_l_drawn).names.lookup ("drawn" : Str) = some NameKind.local := by decide +kernel
theorem fn_l_drawn [Glo] (Bi : Bi mg) (Er : Er K mg) (D : DefIn K mg "_law_drawn" s_l_drawn ["number", "k"])  : Fn P w K mg base "_law_drawn" 1 2 f_l_drawn := by
  obtain ⟨ad, fd, F, hm, hb⟩ := D
  exact fn_mk (k := 0) F sc_l_drawn hm hb fun cdv A outer s H E hr => ⟨_, ss_cons (s_set (i := 2) sc_l_drawn.nd rfl (.inl k_l_drawn_drawn) (d_op od_mod op_mod ne_mod (d_op od_mul op_mul ne_mul (d_op od_add or_add ne_add (d_op od_add or_add ne_add (dv 0 rfl (.inl k_l_drawn_number)) (d_op od_mul op_mul ne_mul (d_int) (dv 1 rfl (.inl k_l_drawn_k)))) (d_int)) (d_int)) (d_int))) (ss_one (s_ret (d_op od_mod op_mod ne_mod (d_op od_add or_add ne_add (d_op od_add or_add ne_add (d_op od_mul op_mul ne_mul (dv 2 rfl (.inl k_l_drawn_drawn)) (dv 2 rfl (.inl k_l_drawn_drawn))) (d_op od_mul op_mul ne_mul (d_int) (dv 2 rfl (.inl k_l_drawn_drawn)))) (dv 1 rfl (.inl k_l_drawn_k))) (d_int))))⟩
/-! _law_figures -/
abbrev s_l_figures : Stmt := topS 36
abbrev N_l_figures : List Str := ["number", "most", "found", "k"]
theorem sc_l_figures : FnScope ["number", "most", "found", "k"] ["number", "most"] (defScope s_l_figures) := ⟨rfl, rfl, rfl, by decide +kernel, rfl, by decide +kernel, by decide +kernel⟩
theorem k_l_figures_number : (defScope s_l_figures).names.lookup ("number" : Str) = some NameKind.local := by decide +kernel
theorem k_l_figures_most : (defScope s_l_figures).names.lookup ("most" : Str) = some NameKind.local := by decide +kernel
theorem k_l_figures_found : (defScope s_l_figures).names.lookup ("found" : Str) = some NameKind.local := by decide +kernel
theorem k_l_figures_k : (defScope s_l_figures).names.lookup ("k" : Str) = some NameKind.local := by decide +kernel
theorem g_l_figures__law_drawn : (defScope s_l_figures).names.lookup ("_law_drawn" : Str) = some NameKind.globalImplicit := by decide +kernel
theorem g_l_figures_range : (defScope s_l_figures).names.lookup ("range" : Str) = some NameKind.globalImplicit := by decide +kernel
theorem fn_l_figures [Glo] (Bi : Bi mg) (Er : Er K mg) (D : DefIn K mg "_law_figures" s_l_figures ["number", "most"]) (F_l_drawn : Fn P w K mg base "_law_drawn" 1 2 f_l_drawn) : Fn P w K mg base "_law_figures" 2 2 f_l_figures := by
  obtain ⟨ad, fd, F, hm, hb⟩ := D
  exact fn_mk (k := 1) F sc_l_figures hm hb fun cdv A outer s H E hr => ⟨_, ss_cons (s_set (i := 2) sc_l_figures.nd rfl (.inl k_l_figures_found) (d_str [])) (ss_cons (s_for (is := [3]) (passes_of rfl) rfl (i_rng1 g_l_figures_range Bi.b_range (a_cons (d_op od_mod op_mod ne_mod (dv 0 rfl (.inl k_l_figures_number)) (d_op od_add or_add ne_add (dv 1 rfl (.inl k_l_figures_most)) (d_int))) (a_nil))) (g_name (i := 3) sc_l_figures.nd rfl (.inl k_l_figures_k)) noErG1 (ss_one (s_set (i := 2) sc_l_figures.nd rfl (.inl k_l_figures_found) (d_op od_add or_add ne_add (dv 2 rfl (.inl k_l_figures_found)) (d_ix (d_str [48, 49, 50, 51, 52, 53, 54, 55, 56, 57]) (d_op od_mod op_mod ne_mod (d_op od_div op_fdiv ne_div (d_call F_l_drawn (hr.mono (by decide)) g_l_figures__law_drawn px (a_cons (dv 0 rfl (.inl k_l_figures_number)) (a_cons (dv 3 rfl (.inl k_l_figures_k)) (a_nil)))) (d_int)) (d_ix (d_tup (a_cons (d_int) (a_cons (d_int) (a_cons (d_int) (a_nil))))) (d_op od_mod op_mod ne_mod (d_op od_div op_fdiv ne_div (dv 0 rfl (.inl k_l_figures_number)) (d_int)) (d_int))))))))) (ss_one (s_ret (dv 2 rfl (.inl k_l_figures_found)))))⟩
/-! _law_rule -/
abbrev s_l_rule : Stmt := topS 37
abbrev N_l_rule : List Str := ["number", "prefix", "drawn", "size"]
theorem sc_l_rule : FnScope ["number", "prefix", "drawn", "size"] ["number"] (defScope s_l_rule) := ⟨rfl, rfl, rfl, by decide +kernel, rfl, by decide +kernel, by decide +kernel⟩
theorem k_l_rule_number : (defScope s_l_rule).names.lookup ("number" : Str) = some NameKind.local := by decide +kernel
theorem k_l_rule_prefix : (defScope s_l_rule).names.lookup ("prefix" : Str) = some NameKind.local := by decide +kernel
theorem k_l_rule_drawn : (defScope s_l_rule).names.lookup ("drawn" : Str) = some NameKind.local := by decide +kernel
theorem k_l_rule_size : (defScope s_l_rule).names.lookup ("size" : Str) = some NameKind.local := by decide +kernel
theorem g_l_rule__law_drawn : (defScope s_l_rule).names.lookup ("_law_drawn" : Str) = some NameKind.globalImplicit := by decide +kernel
theorem g_l_rule__law_figures : (defScope s_l_rule).names.lookup ("_law_figures" : Str) = some NameKind.globalImplicit := by decide +kernel
theorem g_l_rule_len : (defScope s_l_rule).names.lookup ("len" : Str) = some NameKind.globalImplicit := by decide +kernel
theorem g_l_rule_max : (defScope s_l_rule).names.lookup ("max" : Str) = some NameKind.globalImplicit := by decide +kernel
theorem g_l_rule_min : (defScope s_l_rule).names.lookup ("min" : Str) = some NameKind.globalImplicit := by decide +kernel
theorem fn_l_rule [Glo] (Bi : Bi mg) (Er : Er K mg) (D : DefIn K mg "_law_rule" s_l_rule ["number"]) (F_l_drawn : Fn P w K mg base "_law_drawn" 1 2 f_l_drawn) (F_l_figures : Fn P w K mg base "_law_figures" 2 2 f_l_figures) : Fn P w K mg base "_law_rule" 3 1 f_l_rule := by
  obtain ⟨ad, fd, F, hm, hb⟩ := D
  exact fn_mk (k := 2) F sc_l_rule hm hb fun cdv A outer s H E hr => ⟨_, ss_cons (s_set (i := 1) sc_l_rule.nd rfl (.inl k_l_rule_prefix) (d_call F_l_figures (hr.mono (by decide)) g_l_rule__law_figures px (a_cons (dv 0 rfl (.inl k_l_rule_number)) (a_cons (d_ix (d_tup (a_cons (d_int) (a_cons (d_int) (a_cons (d_int) (a_nil))))) (d_op od_mod op_mod ne_mod (d_op od_div op_fdiv ne_div (dv 0 rfl (.inl k_l_rule_number)) (d_int)) (d_int))) (a_nil))))) (ss_cons (s_set (i := 2) sc_l_rule.nd rfl (.inl k_l_rule_drawn) (d_op od_div op_fdiv ne_div (d_call F_l_drawn (hr.mono (by decide)) g_l_rule__law_drawn px (a_cons (dv 0 rfl (.inl k_l_rule_number)) (a_cons (d_int) (a_nil)))) (d_int))) (ss_cons (s_if (t_cmp od_eq (op_eqD hr.units) ne_eq (d_op od_mod op_mod ne_mod (dv 2 rfl (.inl k_l_rule_drawn)) (d_int)) (d_int) (nomark _)) (ss_one (s_ret (d_tup (a_cons (dv 1 rfl (.inl k_l_rule_prefix)) (a_cons (d_int) (a_cons (d_str []) (a_nil))))))) (ss_nil)) (ss_cons (s_set (i := 3) sc_l_rule.nd rfl (.inl k_l_rule_size) (d_op od_add or_add ne_add (d_callB cd_max2 (call_max2 rfl) g_l_rule_max Bi.b_max (by decide +kernel) (a_cons (d_int) (a_cons (d_callB cd_len cr_len g_l_rule_len Bi.b_len (by decide +kernel) (a_cons (dv 1 rfl (.inl k_l_rule_prefix)) (a_nil))) (a_nil)))) (d_op od_mod op_mod ne_mod (d_op od_div op_fdiv ne_div (dv 2 rfl (.inl k_l_rule_drawn)) (d_int)) (d_ix (d_tup (a_cons (d_int) (a_cons (d_int) (a_cons (d_int) (a_nil))))) (d_op od_mod op_mod ne_mod (d_op od_div op_fdiv ne_div (dv 2 rfl (.inl k_l_rule_drawn)) (d_int)) (d_int)))))) (ss_one (s_ret (d_tup (a_cons (dv 1 rfl (.inl k_l_rule_prefix)) (a_cons (d_callB cd_min2 (call_min2 rfl) g_l_rule_min Bi.b_min (by decide +kernel) (a_cons (d_int) (a_cons (dv 3 rfl (.inl k_l_rule_size)) (a_nil)))) (a_cons (d_ix (d_tup (a_cons (d_str [97]) (a_cons (d_str [98]) (a_cons (d_str [99, 100]) (a_cons (d_str [104, 111, 109, 101]) (a_nil)))))) (d_op od_mod op_mod ne_mod (d_op od_div op_fdiv ne_div (dv 2 rfl (.inl k_l_rule_drawn)) (d_int)) (d_int))) (a_nil))))))))))⟩
/-! _law_table -/
abbrev s_l_table : Stmt := topS 38
abbrev N_l_table : List Str := ["number", "most", "found", "k", "rule", "prefix"]
theorem sc_l_table : FnScope ["number", "most", "found", "k", "rule", "prefix"] ["number", "most"] (defScope s_l_table) := ⟨rfl, rfl, rfl, by decide +kernel, rfl, by decide +kernel, by decide +kernel⟩
theorem k_l_table_number : (defScope s_l_table).names.lookup ("number" : Str) = some NameKind.local := by decide +kernel
theorem k_l_table_most : (defScope s_l_table).names.lookup ("most" : Str) = some NameKind.local := by decide +kernel
theorem k_l_table_found : (defScope s_l_table).names.lookup ("found" : Str) = some NameKind.cell := by decide +kernel
theorem k_l_table_k : (defScope s_l_table).names.lookup ("k" : Str) = some NameKind.local := by decide +kernel
theorem k_l_table_rule : (defScope s_l_table).names.lookup ("rule" : Str) = some NameKind.local := by decide +kernel
theorem g_l_table__law_drawn : (defScope s_l_table).names.lookup ("_law_drawn" : Str) = some NameKind.globalImplicit := by decide +kernel
theorem g_l_table__law_rule : (defScope s_l_table).names.lookup ("_law_rule" : Str) = some NameKind.globalImplicit := by decide +kernel
theorem g_l_table_range : (defScope s_l_table).names.lookup ("range" : Str) = some NameKind.globalImplicit := by decide +kernel
theorem g_l_table_sorted : (defScope s_l_table).names.lookup ("sorted" : Str) = some NameKind.globalImplicit := by decide +kernel
theorem g_l_table_tuple : (defScope s_l_table).names.lookup ("tuple" : Str) = some NameKind.globalImplicit := by decide +kernel
theorem fn_l_table [Glo] (Bi : Bi mg) (Er : Er K mg) (D : DefIn K mg "_law_table" s_l_table ["number", "most"]) (F_l_drawn : Fn P w K mg base "_law_drawn" 1 2 f_l_drawn) (F_l_rule : Fn P w K mg base "_law_rule" 3 1 f_l_rule) : Fn P w K mg base "_law_table" 4 2 f_l_table := by
  obtain ⟨ad, fd, F, hm, hb⟩ := D
  exact fn_mk (k := 3) F sc_l_table hm hb fun cdv A outer s H E hr => ⟨_, ss_cons (s_newM (i := 2) sc_l_table.nd rfl (.inr k_l_table_found)) (ss_cons (s_for (is := [3]) (passes_of rfl) rfl (i_rng1 g_l_table_range Bi.b_range (a_cons (d_op od_mod op_mod ne_mod (dv 0 rfl (.inl k_l_table_number)) (d_op od_add or_add ne_add (dv 1 rfl (.inl k_l_table_most)) (d_int))) (a_nil))) (g_name (i := 3) sc_l_table.nd rfl (.inl k_l_table_k)) noErG1 (ss_cons (s_set (i := 4) sc_l_table.nd rfl (.inl k_l_table_rule) (d_call F_l_rule (hr.mono (by decide)) g_l_table__law_rule px (a_cons (d_call F_l_drawn (hr.mono (by decide)) g_l_table__law_drawn px (a_cons (dv 0 rfl (.inl k_l_table_number)) (a_cons (d_op od_add or_add ne_add (d_int) (dv 3 rfl (.inl k_l_table_k))) (a_nil)))) (a_nil)))) (ss_one (s_put (hu_of hr) (pe_var (i := 2) rfl (.inr (.inl k_l_table_found))) (d_ix (dv 4 rfl (.inl k_l_table_rule)) (d_int)) (dv 4 rfl (.inl k_l_table_rule)))))) (ss_one (s_frz 2 (s_ret (d_callTy cd_tuple call_tuple_of g_l_table_tuple Bi.b_tuple (by decide +kernel) (a_cons (d_lc [("prefix", 5)] rfl rfl sc_l_table.nd (i_all (d_callB cd_sortG (cr_sortG rfl hr.units) g_l_table_sorted Bi.b_sorted (by decide +kernel) (a_cons (dv 2 rfl (.inr (.inl k_l_table_found))) (a_nil)))) (blkOk_by (N := N_l_table) (sc := defScope s_l_table) (own := [("prefix", 5)]) (by decide +kernel)) noErG1 (fun _ _ _ _ _ => g_name (i := 5) sc_l_table.nd rfl (.inl (by rfl))) (fun _ _ _ _ _ => ts_nil) (fun _ _ _ _ _ => d_get (hu_of hr) (dv 2 rfl (.inr (.inl (by rfl)))) (dv 5 rfl (.inl (by rfl))))) (a_nil)))))))⟩
/-! _law_told -/
abbrev s_l_told : Stmt := topS 39
abbrev N_l_told : List Str := ["deed", "found", "e", "kinds"]
theorem sc_l_told : FnScope ["deed", "found", "e", "kinds"] ["deed"] (defScope s_l_told) := ⟨rfl, rfl, rfl, by decide +kernel, rfl, by decide +kernel, by decide +kernel⟩
theorem k_l_told_deed : (defScope s_l_told).names.lookup ("deed" : Str) = some NameKind.local := by decide +kernel
theorem k_l_told_found : (defScope s_l_told).names.lookup ("found" : Str) = some NameKind.local := by decide +kernel
theorem k_l_told_e : (defScope s_l_told).names.lookup ("e" : Str) = some NameKind.local := by decide +kernel
theorem k_l_told_kinds : (defScope s_l_told).names.lookup ("kinds" : Str) = some NameKind.local := by decide +kernel
theorem gives_told [Glo] {X : Cx} (TI : ToldIn X.K X.mg) {g : Addr} {cdv : Value} {q : Str} : LamX.GivesTo X N_l_told "_law_told" (defScope s_l_told) g cdv (defBody s_l_told) "deed" q TTold := by
  intro f c' s H Q tl act hc h
  obtain ⟨CD, hcd, hex⟩ := TI.cd
  refine ⟨_, pss_cons (ps_try_as (X := (cxOf C8.CX0 X.prog X.w X.K X.mg X.base N_l_told "_law_told" (defScope s_l_told) g cdv X.A X.stack s H C8.E0).nox) (i := 2) (c := .ref CD)
      (tb := fun W D σ H => ∃ Ech : XK, (∀ cls d σ' H', Ech cls d H' → W cls d σ' H') ∧ σ[0]? = some (some (.ref f)) ∧ H c' = some (LamX.CodeO c' q) ∧ tl Ech H (fun v H1 => [V.str sTold, v].length ≤ sizeLine ∧ ∀ p, H1 p = none → D.nx (σ.set 1 (some (.ref p))) (upd H1 p (.tup [.str sTold, v]))))
      (ts := fun a cls d D σ H => σ.length = 4 → ∃ n, n < 4 ∧ cls = .ref (Glo.adr n) ∧ d = none ∧ σ[2]? = some (some (.ref a)) ∧ ∀ H'' t σ', Same H H'' → H t = none → H'' t = some (.tup [.str sRef, .int (n : Nat)]) → σ'.length = 4 → σ'[1]? = some (some (.ref t)) → D.nx σ' H'')
      rfl rfl sc_l_told.nd rfl rfl ⟨rfl, by decide, .inl hcd⟩ LamX.takes0 (fun W pn xe tk _ => ?B) (fun a oe cls d pn hz hf => ?S)) (pss_one (ps_ret (pv 1))), ?R⟩
  case B =>
    refine ⟨fun pins s' σ H' D I h' => ?_⟩
    obtain ⟨Ech, hW, h1, h2, h3⟩ := h'
    obtain ⟨t, p, r⟩ : ∃ t, PSs ((cxOf C8.CX0 X.prog X.w X.K X.mg X.base N_l_told "_law_told" (defScope s_l_told) g cdv X.A X.stack s H C8.E0).tr pn xe) (tryB (defBody s_l_told)) t ∧ t D σ H' :=
      ⟨_, pss_one (ps_set (i := 1) sc_l_told.nd rfl (.inl rfl) (pe_tup (pa_cons pe_str (pa_cons (act W pn xe Ech _ _ tk hW) pa_nil)))), h1, h2, h3⟩
    exact p.run pins s' σ H' D I r
  case S =>
    refine ⟨fun pins s' σ H' D I h' => ?_⟩
    have hl : σ.length = 4 := I.len
    obtain ⟨n, hn, e1, e2, h2, hk⟩ := h' hl
    subst e1 e2
    have ce := call_isE (X := (cxOf C8.CX0 X.prog X.w X.K X.mg X.base N_l_told "_law_told" (defScope s_l_told) g cdv X.A X.stack s H C8.E0).nox) (pn := pn) (a := a) (TI.ex n hn) hz hf
    obtain ⟨t, p, r⟩ : ∃ t, PSs (((cxOf C8.CX0 X.prog X.w X.K X.mg X.base N_l_told "_law_told" (defScope s_l_told) g cdv X.A X.stack s H C8.E0).nox).suite a ((a, oe) :: pn)) (tryS (defBody s_l_told)) t ∧ t D σ H' := by
      refine ⟨_, pss_cons (ps_set (i := 3) sc_l_told.nd rfl (.inl rfl) (pe_lst (pa_cons (pe_callB ce rfl TI.bi (by decide +kernel) (pa_cons (pv 2) (pa_cons (pe_glob (v := .ref (Glo.adr 0)) rfl TI.c0 rfl) pa_nil))) (pa_cons (pe_callB ce rfl TI.bi (by decide +kernel) (pa_cons (pv 2) (pa_cons (pe_glob (v := .ref (Glo.adr 1)) rfl TI.c1 rfl) pa_nil)))
        (pa_cons (pe_callB ce rfl TI.bi (by decide +kernel) (pa_cons (pv 2) (pa_cons (pe_glob (v := .ref (Glo.adr 2)) rfl TI.c2 rfl) pa_nil))) (pa_cons (pe_callB ce rfl TI.bi (by decide +kernel) (pa_cons (pv 2) (pa_cons (pe_glob (v := .ref (Glo.adr 3)) rfl TI.c3 rfl) pa_nil))) pa_nil))))))
      (pss_cons (ps_set (i := 1) sc_l_told.nd rfl (.inl rfl) (pe_tup (pa_cons pe_str (pa_cons (pe_un un_neg pe_int) pa_nil))))
        (pss_one (ps_if (PW.pt (pw_and (pt_val (pe_callB ce rfl TI.bi (by decide +kernel) (pa_cons (pv 2) (pa_cons (pe_bltn (v := .ty "ValueError") rfl TI.bv (by decide +kernel) rfl) pa_nil))))
            (pw_and1 (pt_cmpR op_eq (pe_bm PySem.F.plainAttrs_list PySem.F.slot_list_count PySem.F.type_list_count mt_countF (pv 3) (pa_cons pe_bl pa_nil)) pe_int (nomark _)))))
          (pss_one (ps_set (i := 1) sc_l_told.nd rfl (.inl rfl) (pe_tup (pa_cons pe_str (pa_cons (pe_bm PySem.F.plainAttrs_list PySem.F.slot_list_index PySem.F.type_list_index mt_index (pv 3) (pa_cons pe_bl pa_nil)) pa_nil))))) pss_nil))), ?_⟩
      have g2 : ∀ (i : Nat) (v : Option V), i ≠ 2 → (σ.set i v)[2]? = some (some (.ref a)) := fun i v hi => by rw [List.getElem?_set_ne hi]; exact h2
      refine ⟨.ref a, h2, .ref (Glo.adr 0), .ref (Glo.adr 0), (n == 0), rfl, fun u hu => hu, TI.kit n 0 hn (by decide), ?_⟩
      refine ⟨.ref a, h2, .ref (Glo.adr 1), .ref (Glo.adr 1), (n == 1), rfl, fun u hu => hu, TI.kit n 1 hn (by decide), ?_⟩
      refine ⟨.ref a, h2, .ref (Glo.adr 2), .ref (Glo.adr 2), (n == 2), rfl, fun u hu => hu, TI.kit n 2 hn (by decide), ?_⟩
      refine ⟨.ref a, h2, .ref (Glo.adr 3), .ref (Glo.adr 3), (n == 3), rfl, fun u hu => hu, TI.kit n 3 hn (by decide), ?_⟩
      refine ⟨by show 4 ≤ sizeLine; decide, fun l nl => ?_⟩
      refine ⟨1, rfl, ?_⟩
      refine ⟨by show 2 ≤ sizeLine; decide, fun t1 n1 => ?_⟩
      have s1 : Same H' (upd H' l (.lst (kindV n))) := same_new nl
      have s2 : Same (upd H' l (.lst (kindV n))) (upd (upd H' l (.lst (kindV n))) t1 (.tup [.str sRef, .int (-1)])) := same_new n1
      have hL : (upd (upd H' l (.lst (kindV n))) t1 (.tup [.str sRef, .int (-1)])) l = some (.lst (kindV n)) := s2 _ _ upd_same
      have hs2 : ((σ.set 3 (some (.ref l))).set 1 (some (.ref t1)))[2]? = some (some (.ref a)) := by
        rw [List.getElem?_set_ne (by decide), List.getElem?_set_ne (by decide)]
        exact h2
      have hs3 : ((σ.set 3 (some (.ref l))).set 1 (some (.ref t1)))[3]? = some (some (.ref l)) := by
        rw [List.getElem?_set_ne (by decide)]
        exact List.getElem?_set_self (by rw [hl]; decide)
      refine ⟨.ref a, hs2, .ty "ValueError", .type "ValueError", true, rfl, fun u hu => hu, TI.ve n hn, true, rfl, ?_⟩
      show if true = true then _ else _
      rw [if_pos rfl]
      refine ⟨.ref l, hs3, .inl ⟨rfl, _, SqL.of hL⟩, l, kindV n, .bl true, rfl, rfl, SqL.of hL, rfl, kindV_flat n, ?_⟩
      rw [kindV_count hn]
      refine ⟨rfl, true, rfl, ?_⟩
      show if true = true then _ else _
      rw [if_pos rfl]
      refine ⟨.ref l, hs3, .inl ⟨rfl, _, SqL.of hL⟩, l, kindV n, .bl true, n, .bl true, rfl, rfl, SqL.of hL, rfl, kindV_flat n, kindV_at hn, rfl, kindV_no hn, ?_⟩
      refine ⟨by show 2 ≤ sizeLine; decide, fun t2 n2 => ?_⟩
      refine hk _ t2 _ ((s1.trans s2).trans (same_new n2)) ((s1.trans s2).free n2) upd_same ?_ ?_
      · simp [hl]
      · exact List.getElem?_set_self (by simp [hl])
    exact p.run pins s' σ H' D I r
  case R =>
    refine ⟨_, fun cls d σ' H' ⟨n, hn, e1, e2, hq⟩ => ?_, rfl, hc, h⟩
    subst e1 e2
    refine ⟨true, hex n hn, fun _ a ha hl => ⟨n, hn, rfl, rfl, ?_, fun H'' t σ2 s1 s2 s3 l1 l2 => ?_⟩, (fun z => by cases z)⟩
    · exact List.getElem?_set_self (by have := hl; simp at this; omega)
    · refine ⟨.ref t, ?_, hq H'' t s1 s2 s3⟩
      rw [List.getElem?_set_ne (by decide)]
      exact l2
/-! _law_sample -/
abbrev s_l_sample : Stmt := topS 40
abbrev N_l_sample : List Str := ["number", "most", "found", "k", "drawn", "figures", "j", "kind", "one"]
theorem sc_l_sample : FnScope ["number", "most", "found", "k", "drawn", "figures", "j", "kind", "one"] ["number", "most"] (defScope s_l_sample) := ⟨rfl, rfl, rfl, by decide +kernel, rfl, by decide +kernel, by decide +kernel⟩
theorem k_l_sample_number : (defScope s_l_sample).names.lookup ("number" : Str) = some NameKind.local := by decide +kernel
theorem k_l_sample_most : (defScope s_l_sample).names.lookup ("most" : Str) = some NameKind.local := by decide +kernel
theorem k_l_sample_found : (defScope s_l_sample).names.lookup ("found" : Str) = some NameKind.cell := by decide +kernel
theorem k_l_sample_k : (defScope s_l_sample).names.lookup ("k" : Str) = some NameKind.local := by decide +kernel
theorem k_l_sample_drawn : (defScope s_l_sample).names.lookup ("drawn" : Str) = some NameKind.local := by decide +kernel
theorem k_l_sample_figures : (defScope s_l_sample).names.lookup ("figures" : Str) = some NameKind.local := by decide +kernel
theorem k_l_sample_j : (defScope s_l_sample).names.lookup ("j" : Str) = some NameKind.local := by decide +kernel
theorem k_l_sample_kind : (defScope s_l_sample).names.lookup ("kind" : Str) = some NameKind.local := by decide +kernel
theorem g_l_sample__law_drawn : (defScope s_l_sample).names.lookup ("_law_drawn" : Str) = some NameKind.globalImplicit := by decide +kernel
theorem g_l_sample_range : (defScope s_l_sample).names.lookup ("range" : Str) = some NameKind.globalImplicit := by decide +kernel
theorem g_l_sample_sorted : (defScope s_l_sample).names.lookup ("sorted" : Str) = some NameKind.globalImplicit := by decide +kernel
theorem g_l_sample_tuple : (defScope s_l_sample).names.lookup ("tuple" : Str) = some NameKind.globalImplicit := by decide +kernel
theorem fn_l_sample [Glo] (Bi : Bi mg) (Er : Er K mg) (D : DefIn K mg "_law_sample" s_l_sample ["number", "most"]) (F_l_drawn : Fn P w K mg base "_law_drawn" 1 2 f_l_drawn) : Fn P w K mg base "_law_sample" 2 2 f_l_sample := by
  obtain ⟨ad, fd, F, hm, hb⟩ := D
  exact fn_mk (k := 1) F sc_l_sample hm hb fun cdv A outer s H E hr => ⟨_, ss_cons (s_newM (i := 2) sc_l_sample.nd rfl (.inr k_l_sample_found)) (ss_cons (s_for (is := [3]) (passes_of rfl) rfl (i_rng1 g_l_sample_range Bi.b_range (a_cons (d_op od_mod op_mod ne_mod (dv 0 rfl (.inl k_l_sample_number)) (d_op od_add or_add ne_add (dv 1 rfl (.inl k_l_sample_most)) (d_int))) (a_nil))) (g_name (i := 3) sc_l_sample.nd rfl (.inl k_l_sample_k)) noErG1 (ss_cons (s_set (i := 4) sc_l_sample.nd rfl (.inl k_l_sample_drawn) (d_call F_l_drawn (hr.mono (by decide)) g_l_sample__law_drawn px (a_cons (dv 0 rfl (.inl k_l_sample_number)) (a_cons (d_op od_add or_add ne_add (d_int) (dv 3 rfl (.inl k_l_sample_k))) (a_nil))))) (ss_cons (s_set (i := 5) sc_l_sample.nd rfl (.inl k_l_sample_figures) (d_str [])) (ss_cons (s_for (is := [6]) (passes_of rfl) rfl (i_rng1 g_l_sample_range Bi.b_range (a_cons (d_op od_add or_add ne_add (d_int) (d_op od_mod op_mod ne_mod (d_op od_div op_fdiv ne_div (dv 4 rfl (.inl k_l_sample_drawn)) (d_int)) (d_ix (d_tup (a_cons (d_int) (a_cons (d_int) (a_nil)))) (d_op od_mod op_mod ne_mod (d_op od_div op_fdiv ne_div (dv 0 rfl (.inl k_l_sample_number)) (d_int)) (d_int))))) (a_nil))) (g_name (i := 6) sc_l_sample.nd rfl (.inl k_l_sample_j)) noErG1 (ss_cons (s_set (i := 7) sc_l_sample.nd rfl (.inl k_l_sample_kind) (d_op od_mod op_mod ne_mod (d_op od_div op_fdiv ne_div (dv 0 rfl (.inl k_l_sample_number)) (d_int)) (d_int))) (ss_one (s_set (i := 5) sc_l_sample.nd rfl (.inl k_l_sample_figures) (d_op od_add or_add ne_add (dv 5 rfl (.inl k_l_sample_figures)) (d_ix (d_str [48, 49, 50, 51, 52, 53, 54, 55, 56, 57]) (d_op od_mod op_mod ne_mod (d_op od_div op_fdiv ne_div (d_call F_l_drawn (hr.mono (by decide)) g_l_sample__law_drawn px (a_cons (dv 4 rfl (.inl k_l_sample_drawn)) (a_cons (dv 6 rfl (.inl k_l_sample_j)) (a_nil)))) (d_int)) (d_ix (d_tup (a_cons (d_int) (a_cons (d_int) (a_cons (d_int) (a_nil))))) (dv 7 rfl (.inl k_l_sample_kind)))))))))) (ss_one (s_put (hu_of hr) (pe_var (i := 2) rfl (.inr (.inl k_l_sample_found))) (dv 5 rfl (.inl k_l_sample_figures)) (d_ix (d_tup (a_cons (d_non) (a_cons (d_str [97]) (a_cons (d_str [97]) (a_cons (d_str [98]) (a_cons (d_str [99, 100]) (a_nil))))))) (d_op od_mod op_mod ne_mod (d_op od_div op_fdiv ne_div (dv 4 rfl (.inl k_l_sample_drawn)) (d_int)) (d_int))))))))) (ss_one (s_frz 2 (s_ret (d_callTy cd_tuple call_tuple_of g_l_sample_tuple Bi.b_tuple (by decide +kernel) (a_cons (d_lc [("one", 8)] rfl rfl sc_l_sample.nd (i_all (d_callB cd_sortG (cr_sortG rfl hr.units) g_l_sample_sorted Bi.b_sorted (by decide +kernel) (a_cons (dv 2 rfl (.inr (.inl k_l_sample_found))) (a_nil)))) (blkOk_by (N := N_l_sample) (sc := defScope s_l_sample) (own := [("one", 8)]) (by decide +kernel)) noErG1 (fun _ _ _ _ _ => g_name (i := 8) sc_l_sample.nd rfl (.inl (by rfl))) (fun _ _ _ _ _ => ts_nil) (fun _ _ _ _ _ => d_tup (a_cons (dv 8 rfl (.inl (by rfl))) (a_cons (d_get (hu_of hr) (dv 2 rfl (.inr (.inl (by rfl)))) (dv 8 rfl (.inl (by rfl)))) (a_nil))))) (a_nil)))))))⟩
/-! _law_is_sample -/
abbrev s_l_is_sample : Stmt := topS 41
abbrev N_l_is_sample : List Str := ["thing", "numbers", "number", "word", "pair"]
theorem sc_l_is_sample : FnScope ["thing", "numbers", "number", "word", "pair"] ["thing"] (defScope s_l_is_sample) := ⟨rfl, rfl, rfl, by decide +kernel, rfl, by decide +kernel, by decide +kernel⟩
theorem k_l_is_sample_thing : (defScope s_l_is_sample).names.lookup ("thing" : Str) = some NameKind.local := by decide +kernel
theorem k_l_is_sample_numbers : (defScope s_l_is_sample).names.lookup ("numbers" : Str) = some NameKind.local := by decide +kernel
theorem k_l_is_sample_number : (defScope s_l_is_sample).names.lookup ("number" : Str) = some NameKind.local := by decide +kernel
theorem k_l_is_sample_word : (defScope s_l_is_sample).names.lookup ("word" : Str) = some NameKind.local := by decide +kernel
theorem g_l_is_sample_is_number : (defScope s_l_is_sample).names.lookup ("is_number" : Str) = some NameKind.globalImplicit := by decide +kernel
theorem g_l_is_sample_isinstance : (defScope s_l_is_sample).names.lookup ("isinstance" : Str) = some NameKind.globalImplicit := by decide +kernel
theorem g_l_is_sample_len : (defScope s_l_is_sample).names.lookup ("len" : Str) = some NameKind.globalImplicit := by decide +kernel
theorem g_l_is_sample_set : (defScope s_l_is_sample).names.lookup ("set" : Str) = some NameKind.globalImplicit := by decide +kernel
theorem g_l_is_sample_sorted : (defScope s_l_is_sample).names.lookup ("sorted" : Str) = some NameKind.globalImplicit := by decide +kernel
theorem g_l_is_sample_tuple : (defScope s_l_is_sample).names.lookup ("tuple" : Str) = some NameKind.globalImplicit := by decide +kernel
theorem fn_l_is_sample [Glo] (Bi : Bi mg) (Er : Er K mg) (D : DefIn K mg "_law_is_sample" s_l_is_sample ["thing"]) (F_is_number : Fn P w K mg base "is_number" 2 1 f_is_number) : Fn P w K mg base "_law_is_sample" 3 1 f_l_is_sample := by
  obtain ⟨ad, fd, F, hm, hb⟩ := D
  exact fn_mk (k := 2) F sc_l_is_sample hm hb fun cdv A outer s H E hr => ⟨_, ss_cons (s_setLc (i := 1) [("pair", 4)] rfl rfl sc_l_is_sample.nd rfl k_l_is_sample_numbers (sw_true rfl k_l_is_sample_numbers rfl (by decide +kernel)) (i_all (dv 0 rfl (.inl k_l_is_sample_thing))) (blkOk_by (N := N_l_is_sample) (sc := defScope s_l_is_sample) (own := [("pair", 4)]) (by decide +kernel)) noErG1 (fun _ _ _ _ _ => g_name (i := 4) sc_l_is_sample.nd rfl (.inl (by rfl))) (fun _ _ _ _ _ => ts_nil) (fun _ _ _ _ _ => d_ix (dv 4 rfl (.inl (by rfl))) (d_int))) (ss_cons (s_if (t_w (w_or (t_not (t_val (d_isa .tuple g_l_is_sample_isinstance Bi.b_isinstance g_l_is_sample_tuple Bi.b_tuple (by decide +kernel) (by decide) (by decide) (dv 0 rfl (.inl k_l_is_sample_thing))))) (w_or (t_cmp od_cmp or_gt ne_cmp (d_callB cd_len cr_len g_l_is_sample_len Bi.b_len (by decide +kernel) (a_cons (dv 0 rfl (.inl k_l_is_sample_thing)) (a_nil))) (d_int) (nomark _)) (w_or1 (t_cmp od_ne (op_neD hr.units) ne_ne (dv 1 rfl (.inl k_l_is_sample_numbers)) (d_sortset rfl (hu4_of hr) g_l_is_sample_sorted Bi.b_sorted g_l_is_sample_set Bi.b_set (a_cons (dv 1 rfl (.inl k_l_is_sample_numbers)) (a_nil))) (nomark _)))))) (ss_one (s_ret (d_bl))) (ss_nil)) (ss_cons (s_for (is := [2, 3]) (passes_of rfl) rfl (i_all (dv 0 rfl (.inl k_l_is_sample_thing))) (g_tup [2, 3] (.cons (.cons .nil)) (pgs_cons (pg_name (i := 2) sc_l_is_sample.nd rfl (.inl k_l_is_sample_number)) (pgs_cons (pg_name (i := 3) sc_l_is_sample.nd rfl (.inl k_l_is_sample_word)) (pgs_nil)))) noErGN (ss_one (s_if (t_w (w_or (t_not (t_val (d_call F_is_number (hr.mono (by decide)) g_l_is_sample_is_number px (a_cons (dv 2 rfl (.inl k_l_is_sample_number)) (a_nil))))) (w_or1 (t_w (w_and (t_cmp od_notN op_notN ne_notN (dv 3 rfl (.inl k_l_is_sample_word)) (d_non) (nomark _)) (w_and1 (t_not (t_chn od_cmp or_le ne_cmp od_cmp or_le ne_cmp (d_int) (d_callB cd_len cr_len g_l_is_sample_len Bi.b_len (by decide +kernel) (a_cons (dv 3 rfl (.inl k_l_is_sample_word)) (a_nil))) (d_int))))))))) (ss_one (s_ret (d_bl))) (ss_nil)))) (ss_one (s_ret (d_bl)))))⟩
/-! _law_bent -/
abbrev s_l_bent : Stmt := topS 42
abbrev N_l_bent : List Str := ["text", "number", "at", "sign", "rows", "row", "ahead", "later", "some", "twice"]
theorem sc_l_bent : FnScope ["text", "number", "at", "sign", "rows", "row", "ahead", "later", "some", "twice"] ["text", "number"] (defScope s_l_bent) := ⟨rfl, rfl, rfl, by decide +kernel, rfl, by decide +kernel, by decide +kernel⟩
theorem k_l_bent_text : (defScope s_l_bent).names.lookup ("text" : Str) = some NameKind.local := by decide +kernel
theorem k_l_bent_number : (defScope s_l_bent).names.lookup ("number" : Str) = some NameKind.local := by decide +kernel
theorem k_l_bent_at : (defScope s_l_bent).names.lookup ("at" : Str) = some NameKind.local := by decide +kernel
theorem k_l_bent_sign : (defScope s_l_bent).names.lookup ("sign" : Str) = some NameKind.local := by decide +kernel
theorem k_l_bent_rows : (defScope s_l_bent).names.lookup ("rows" : Str) = some NameKind.local := by decide +kernel
theorem k_l_bent_row : (defScope s_l_bent).names.lookup ("row" : Str) = some NameKind.local := by decide +kernel
theorem k_l_bent_ahead : (defScope s_l_bent).names.lookup ("ahead" : Str) = some NameKind.local := by decide +kernel
theorem k_l_bent_later : (defScope s_l_bent).names.lookup ("later" : Str) = some NameKind.local := by decide +kernel
theorem k_l_bent_some : (defScope s_l_bent).names.lookup ("some" : Str) = some NameKind.local := by decide +kernel
theorem k_l_bent_twice : (defScope s_l_bent).names.lookup ("twice" : Str) = some NameKind.local := by decide +kernel
theorem g_l_bent_len : (defScope s_l_bent).names.lookup ("len" : Str) = some NameKind.globalImplicit := by decide +kernel
theorem fn_l_bent [Glo] (Bi : Bi mg) (Er : Er K mg) (D : DefIn K mg "_law_bent" s_l_bent ["text", "number"])  : Fn P w K mg base "_law_bent" 1 2 f_l_bent := by
  obtain ⟨ad, fd, F, hm, hb⟩ := D
  exact fn_mk (k := 0) F sc_l_bent hm hb fun cdv A outer s H E hr => ⟨_, ss_cons (s_set (i := 2) sc_l_bent.nd rfl (.inl k_l_bent_at) (d_op od_mod op_mod ne_mod (dv 1 rfl (.inl k_l_bent_number)) (d_op od_add or_add ne_add (d_callB cd_len cr_len g_l_bent_len Bi.b_len (by decide +kernel) (a_cons (dv 0 rfl (.inl k_l_bent_text)) (a_nil))) (d_int)))) (ss_cons (s_set (i := 3) sc_l_bent.nd rfl (.inl k_l_bent_sign) (d_ix (d_str [48, 49, 50, 57, 32, 42, 45, 97, 98, 122, 10]) (d_op od_mod op_mod ne_mod (d_op od_div op_fdiv ne_div (dv 1 rfl (.inl k_l_bent_number)) (d_int)) (d_int)))) (ss_cons (s_set (i := 4) sc_l_bent.nd rfl (.inl k_l_bent_rows) (d_methS PySem.F.slot_str_split PySem.F.type_str_split md_split mt_split (dv 0 rfl (.inl k_l_bent_text)) (a_cons (d_str [10]) (a_nil)))) (ss_cons (s_set (i := 5) sc_l_bent.nd rfl (.inl k_l_bent_row) (d_op od_mod op_mod ne_mod (d_op od_div op_fdiv ne_div (dv 1 rfl (.inl k_l_bent_number)) (d_int)) (d_callB cd_len cr_len g_l_bent_len Bi.b_len (by decide +kernel) (a_cons (dv 4 rfl (.inl k_l_bent_rows)) (a_nil))))) (ss_cons (s_par (i := 6) (j := 7) rfl sc_l_bent.nd rfl rfl (by decide) k_l_bent_ahead k_l_bent_later (a_cons (d_slc (dv 0 rfl (.inl k_l_bent_text)) (o_no) (o_some (dv 2 rfl (.inl k_l_bent_at)))) (a_cons (d_slc (dv 0 rfl (.inl k_l_bent_text)) (o_some (d_op od_add or_add ne_add (dv 2 rfl (.inl k_l_bent_at)) (d_int))) (o_no)) (a_nil)))) (ss_cons (s_newL (i := 8) sc_l_bent.nd rfl (.inl k_l_bent_some) (a_cons (d_op od_add or_add ne_add (d_op od_add or_add ne_add (dv 6 rfl (.inl k_l_bent_ahead)) (dv 3 rfl (.inl k_l_bent_sign))) (d_slc (dv 0 rfl (.inl k_l_bent_text)) (o_some (dv 2 rfl (.inl k_l_bent_at))) (o_no))) (a_cons (d_op od_add or_add ne_add (dv 6 rfl (.inl k_l_bent_ahead)) (dv 7 rfl (.inl k_l_bent_later))) (a_cons (d_op od_add or_add ne_add (d_op od_add or_add ne_add (dv 6 rfl (.inl k_l_bent_ahead)) (dv 3 rfl (.inl k_l_bent_sign))) (dv 7 rfl (.inl k_l_bent_later))) (a_nil))))) (ss_cons (s_set (i := 9) sc_l_bent.nd rfl (.inl k_l_bent_twice) (d_op od_add or_add ne_add (d_op od_add or_add ne_add (d_slc (dv 4 rfl (.inl k_l_bent_rows)) (o_no) (o_some (dv 5 rfl (.inl k_l_bent_row)))) (d_slc (dv 4 rfl (.inl k_l_bent_rows)) (o_some (dv 5 rfl (.inl k_l_bent_row))) (o_some (d_op od_add or_add ne_add (dv 5 rfl (.inl k_l_bent_row)) (d_int))))) (d_slc (dv 4 rfl (.inl k_l_bent_rows)) (o_some (dv 5 rfl (.inl k_l_bent_row))) (o_no)))) (ss_cons (s_app (pe_var (i := 8) rfl (.inl k_l_bent_some)) (d_methS PySem.F.slot_str_join PySem.F.type_str_join md_join mt_join (d_str [10]) (a_cons (dv 9 rfl (.inl k_l_bent_twice)) (a_nil)))) (ss_cons (s_app (pe_var (i := 8) rfl (.inl k_l_bent_some)) (d_methS PySem.F.slot_str_join PySem.F.type_str_join md_join mt_join (d_str [10]) (a_cons (d_op od_add or_add ne_add (d_slc (dv 4 rfl (.inl k_l_bent_rows)) (o_no) (o_some (dv 5 rfl (.inl k_l_bent_row)))) (d_slc (dv 4 rfl (.inl k_l_bent_rows)) (o_some (d_op od_add or_add ne_add (dv 5 rfl (.inl k_l_bent_row)) (d_int))) (o_no))) (a_nil)))) (ss_one (s_frz 8 (s_ret (d_ix (dv 8 rfl (.inl k_l_bent_some)) (d_op od_mod op_mod ne_mod (d_op od_div op_fdiv ne_div (dv 1 rfl (.inl k_l_bent_number)) (d_int)) (d_int))))))))))))))⟩
/-! _law_read -/
abbrev s_l_read : Stmt := topS 43
abbrev N_l_read : List Str := ["kind", "text"]
theorem sc_l_read : FnScope ["kind", "text"] ["kind", "text"] (defScope s_l_read) := ⟨rfl, rfl, rfl, by decide +kernel, rfl, by decide +kernel, by decide +kernel⟩
theorem k_l_read_kind : (defScope s_l_read).names.lookup ("kind" : Str) = some NameKind.local := by decide +kernel
theorem k_l_read_text : (defScope s_l_read).names.lookup ("text" : Str) = some NameKind.local := by decide +kernel
theorem g_l_read_read_sample : (defScope s_l_read).names.lookup ("read_sample" : Str) = some NameKind.globalImplicit := by decide +kernel
theorem g_l_read_read_table : (defScope s_l_read).names.lookup ("read_table" : Str) = some NameKind.globalImplicit := by decide +kernel
theorem fn_l_read [Glo] (Bi : Bi mg) (Er : Er K mg) (D : DefIn K mg "_law_read" s_l_read ["kind", "text"]) (F_read_table : Fn P w K mg base "read_table" 4 1 f_read_table) (F_read_sample : Fn P w K mg base "read_sample" 4 1 f_read_sample) : Fn P w K mg base "_law_read" 5 2 f_l_read := by
  obtain ⟨ad, fd, F, hm, hb⟩ := D
  exact fn_mk (k := 4) F sc_l_read hm hb fun cdv A outer s H E hr => ⟨_, ss_cons (s_if (t_cmp od_eq (op_eqD hr.units) ne_eq (dv 0 rfl (.inl k_l_read_kind)) (d_int) (nomark _)) (ss_one (s_ret (d_call F_read_table (hr.mono (by decide)) g_l_read_read_table px (a_cons (dv 1 rfl (.inl k_l_read_text)) (a_nil))))) (ss_nil)) (ss_one (s_ret (d_call F_read_sample (hr.mono (by decide)) g_l_read_read_sample px (a_cons (dv 1 rfl (.inl k_l_read_text)) (a_nil)))))⟩
/-! _law_good -/
abbrev s_l_good : Stmt := topS 44
abbrev N_l_good : List Str := ["kind", "thing", "text"]
theorem sc_l_good : FnScope ["kind", "thing", "text"] ["kind", "thing", "text"] (defScope s_l_good) := ⟨rfl, rfl, rfl, by decide +kernel, rfl, by decide +kernel, by decide +kernel⟩
theorem k_l_good_kind : (defScope s_l_good).names.lookup ("kind" : Str) = some NameKind.local := by decide +kernel
theorem k_l_good_thing : (defScope s_l_good).names.lookup ("thing" : Str) = some NameKind.local := by decide +kernel
theorem k_l_good_text : (defScope s_l_good).names.lookup ("text" : Str) = some NameKind.local := by decide +kernel
theorem g_l_good__law_is_sample : (defScope s_l_good).names.lookup ("_law_is_sample" : Str) = some NameKind.globalImplicit := by decide +kernel
theorem g_l_good_is_table : (defScope s_l_good).names.lookup ("is_table" : Str) = some NameKind.globalImplicit := by decide +kernel
theorem g_l_good_isinstance : (defScope s_l_good).names.lookup ("isinstance" : Str) = some NameKind.globalImplicit := by decide +kernel
theorem g_l_good_sample_text : (defScope s_l_good).names.lookup ("sample_text" : Str) = some NameKind.globalImplicit := by decide +kernel
theorem g_l_good_table_text : (defScope s_l_good).names.lookup ("table_text" : Str) = some NameKind.globalImplicit := by decide +kernel
theorem g_l_good_tuple : (defScope s_l_good).names.lookup ("tuple" : Str) = some NameKind.globalImplicit := by decide +kernel
theorem fn_l_good [Glo] (Bi : Bi mg) (Er : Er K mg) (D : DefIn K mg "_law_good" s_l_good ["kind", "thing", "text"]) (F_is_table : Fn P w K mg base "is_table" 3 1 f_is_table) (F_table_text : Fn P w K mg base "table_text" 2 1 f_table_text) (F_sample_text : Fn P w K mg base "sample_text" 2 1 f_sample_text) (F_l_is_sample : Fn P w K mg base "_law_is_sample" 3 1 f_l_is_sample) : Fn P w K mg base "_law_good" 4 3 f_l_good := by
  obtain ⟨ad, fd, F, hm, hb⟩ := D
  exact fn_mk (k := 3) F sc_l_good hm hb fun cdv A outer s H E hr => ⟨_, ss_cons (s_if (t_cmp od_eq (op_eqD hr.units) ne_eq (dv 0 rfl (.inl k_l_good_kind)) (d_int) (nomark _)) (ss_one (s_ret (d_and (d_cmp od_isB op_is_bl ne_isB (d_call F_is_table (hr.mono (by decide)) g_l_good_is_table px (a_cons (dv 1 rfl (.inl k_l_good_thing)) (a_nil))) (d_bl) (nomark _)) (d_one (d_cmp od_eq (op_eqD hr.units) ne_eq (d_call F_table_text (hr.mono (by decide)) g_l_good_table_text px (a_cons (dv 1 rfl (.inl k_l_good_thing)) (a_nil))) (dv 2 rfl (.inl k_l_good_text)) (nomark _)))))) (ss_nil)) (ss_one (s_ret (d_and (d_isa .tuple g_l_good_isinstance Bi.b_isinstance g_l_good_tuple Bi.b_tuple (by decide +kernel) (by decide) (by decide) (dv 1 rfl (.inl k_l_good_thing))) (d_and (d_call F_l_is_sample (hr.mono (by decide)) g_l_good__law_is_sample px (a_cons (dv 1 rfl (.inl k_l_good_thing)) (a_nil))) (d_one (d_cmp od_eq (op_eqD hr.units) ne_eq (d_call F_sample_text (hr.mono (by decide)) g_l_good_sample_text px (a_cons (dv 1 rfl (.inl k_l_good_thing)) (a_nil))) (dv 2 rfl (.inl k_l_good_text)) (nomark _)))))))⟩
/-! law -/
abbrev s_law_k64 : Stmt := topS 45
abbrev N_law_k64 : List Str := ["script", "number", "kind", "text", "k", "found"]
theorem sc_law_k64 : FnScope ["script", "number", "kind", "text", "k", "found"] ["script"] (defScope s_law_k64) := ⟨rfl, rfl, rfl, by decide +kernel, rfl, by decide +kernel, by decide +kernel⟩
theorem k_law_k64_script : (defScope s_law_k64).names.lookup ("script" : Str) = some NameKind.local := by decide +kernel
theorem k_law_k64_number : (defScope s_law_k64).names.lookup ("number" : Str) = some NameKind.local := by decide +kernel
theorem k_law_k64_kind : (defScope s_law_k64).names.lookup ("kind" : Str) = some NameKind.cell := by decide +kernel
theorem k_law_k64_text : (defScope s_law_k64).names.lookup ("text" : Str) = some NameKind.cell := by decide +kernel
theorem k_law_k64_k : (defScope s_law_k64).names.lookup ("k" : Str) = some NameKind.local := by decide +kernel
theorem k_law_k64_found : (defScope s_law_k64).names.lookup ("found" : Str) = some NameKind.local := by decide +kernel
theorem g_law_k64__law_bent : (defScope s_law_k64).names.lookup ("_law_bent" : Str) = some NameKind.globalImplicit := by decide +kernel
theorem g_law_k64__law_drawn : (defScope s_law_k64).names.lookup ("_law_drawn" : Str) = some NameKind.globalImplicit := by decide +kernel
theorem g_law_k64__law_good : (defScope s_law_k64).names.lookup ("_law_good" : Str) = some NameKind.globalImplicit := by decide +kernel
theorem g_law_k64__law_mixed : (defScope s_law_k64).names.lookup ("_law_mixed" : Str) = some NameKind.globalImplicit := by decide +kernel
theorem g_law_k64__law_sample : (defScope s_law_k64).names.lookup ("_law_sample" : Str) = some NameKind.globalImplicit := by decide +kernel
theorem g_law_k64__law_table : (defScope s_law_k64).names.lookup ("_law_table" : Str) = some NameKind.globalImplicit := by decide +kernel
theorem g_law_k64__law_told : (defScope s_law_k64).names.lookup ("_law_told" : Str) = some NameKind.globalImplicit := by decide +kernel
theorem g_law_k64_range : (defScope s_law_k64).names.lookup ("range" : Str) = some NameKind.globalImplicit := by decide +kernel
theorem g_law_k64_sample_text : (defScope s_law_k64).names.lookup ("sample_text" : Str) = some NameKind.globalImplicit := by decide +kernel
theorem g_law_k64_table_text : (defScope s_law_k64).names.lookup ("table_text" : Str) = some NameKind.globalImplicit := by decide +kernel
theorem ok_law [Glo] {ad : Addr} {fd : FuncData} (Bi : Bi mg) (Er : Er K mg) {c PT : Addr} (TI_told : ToldIn K mg) (D_l_told : DefIn K mg "_law_told" s_l_told ["deed"]) (TB : LamX.TabB base mg c PT) (TM : (PT, ("law" : Str) ++ ".<locals>." ++ "<lambda>") ∈ Glo.T) (TU : ∀ p ∈ Glo.T, p.1 = PT → p.2 = ("law" : Str) ++ ".<locals>." ++ "<lambda>") (F : FunC K "law" "law" s_law_k64 ad fd c) (F_table_text : Fn P w K mg base "table_text" 2 1 f_table_text) (F_sample_text : Fn P w K mg base "sample_text" 2 1 f_sample_text) (F_l_mixed : Fn P w K mg base "_law_mixed" 2 2 f_l_mixed) (F_l_drawn : Fn P w K mg base "_law_drawn" 1 2 f_l_drawn) (F_l_table : Fn P w K mg base "_law_table" 4 2 f_l_table) (F_l_sample : Fn P w K mg base "_law_sample" 2 2 f_l_sample) (F_l_bent : Fn P w K mg base "_law_bent" 1 2 f_l_bent) (F_l_read : Fn P w K mg base "_law_read" 5 2 f_l_read) (F_l_good : Fn P w K mg base "_law_good" 4 3 f_l_good) : FnOk P w K mg base (L2.CX P w) 8 ad fd ["script"] (spD K 1 f_law_k64) :=
  fnok_mkC (k := 7) F sc_law_k64 fun A outer s H E hr => ⟨_, ss_cons (s_set (i := 1) sc_law_k64.nd rfl (.inl k_law_k64_number) (d_call F_l_mixed (hr.mono (by decide)) g_law_k64__law_mixed px (a_cons (dv 0 rfl (.inl k_law_k64_script)) (a_cons (d_int) (a_nil))))) (ss_cons (s_set (i := 2) sc_law_k64.nd rfl (.inr k_law_k64_kind) (d_op od_mod op_mod ne_mod (dv 1 rfl (.inl k_law_k64_number)) (d_int))) (ss_cons (s_set (i := 3) sc_law_k64.nd rfl (.inr k_law_k64_text) (d_call F_sample_text (hr.mono (by decide)) g_law_k64_sample_text px (a_cons (d_call F_l_sample (hr.mono (by decide)) g_law_k64__law_sample px (a_cons (d_call F_l_mixed (hr.mono (by decide)) g_law_k64__law_mixed px (a_cons (dv 0 rfl (.inl k_law_k64_script)) (a_cons (d_int) (a_nil)))) (a_cons (d_int) (a_nil)))) (a_nil)))) (ss_cons (s_if (t_cmp od_eq (op_eqD hr.units) ne_eq (dv 2 rfl (.inr (.inl k_law_k64_kind))) (d_int) (nomark _)) (ss_one (s_set (i := 3) sc_law_k64.nd rfl (.inr k_law_k64_text) (d_call F_table_text (hr.mono (by decide)) g_law_k64_table_text px (a_cons (d_call F_l_table (hr.mono (by decide)) g_law_k64__law_table px (a_cons (d_call F_l_mixed (hr.mono (by decide)) g_law_k64__law_mixed px (a_cons (dv 0 rfl (.inl k_law_k64_script)) (a_cons (d_int) (a_nil)))) (a_cons (d_int) (a_nil)))) (a_nil))))) (ss_nil)) (ss_cons (s_for (is := [4]) (passes_of rfl) rfl (i_rng1 g_law_k64_range Bi.b_range (a_cons (d_op od_add or_add ne_add (d_int) (d_op od_mod op_mod ne_mod (d_op od_div op_fdiv ne_div (dv 1 rfl (.inl k_law_k64_number)) (d_int)) (d_int))) (a_nil))) (g_name (i := 4) sc_law_k64.nd rfl (.inl k_law_k64_k)) noErG1 (ss_cons (s_set (i := 3) sc_law_k64.nd rfl (.inr k_law_k64_text) (d_call F_l_bent (hr.mono (by decide)) g_law_k64__law_bent px (a_cons (dv 3 rfl (.inr (.inl k_law_k64_text))) (a_cons (d_op od_div op_fdiv ne_div (d_call F_l_drawn (hr.mono (by decide)) g_law_k64__law_drawn px (a_cons (dv 1 rfl (.inl k_law_k64_number)) (a_cons (dv 4 rfl (.inl k_law_k64_k)) (a_nil)))) (d_int)) (a_nil))))) (ss_cons (s_set (i := 5) sc_law_k64.nd rfl (.inl k_law_k64_found) (d_lam (k := 5) D_l_told g_law_k64__law_told sc_l_told rfl (.inl (by decide +kernel)) (fun _ _ => gives_told TI_told) told_tells TB rfl TM TU (hr.mono (by decide)) (LamX.lamS_by (sc := defScope s_law_k64) (by decide +kernel)) (fun _ _ _ _ _ _ _ hr => d_call F_l_read (hr.mono (by decide)) (by rfl) pxL (a_cons (dv 2 rfl (.inr (.inr (by rfl)))) (a_cons (dv 3 rfl (.inr (.inr (by rfl)))) (a_nil)))))) (ss_one (s_if (t_cmp od_eq (op_eqD hr.units) ne_eq (d_ix (dv 5 rfl (.inl k_law_k64_found)) (d_int)) (d_str [114, 101, 102, 117, 115, 101, 100]) (nomark _)) (ss_one (s_if (t_cmp od_ne (op_neD hr.units) ne_ne (dv 5 rfl (.inl k_law_k64_found)) (d_tup (a_cons (d_str [114, 101, 102, 117, 115, 101, 100]) (a_cons (d_int) (a_nil)))) (nomark _)) (ss_one (s_ret (d_bl))) (ss_nil))) (ss_one (s_if (t_not (t_val (d_call F_l_good (hr.mono (by decide)) g_law_k64__law_good px (a_cons (dv 2 rfl (.inr (.inl k_law_k64_kind))) (a_cons (d_ix (dv 5 rfl (.inl k_law_k64_found)) (d_int)) (a_cons (dv 3 rfl (.inr (.inl k_law_k64_text))) (a_nil))))))) (ss_one (s_ret (d_bl))) (ss_nil)))))))) (ss_one (s_ret (d_bl)))))))⟩
end
theorem all_mk (G0 : Glo) {l : PySem.W.OpenLaw} {w : World} {K : PySem.W.Frag} {h : Heap} {mg : Str → Option Value} {fa : Addr} (X : K.In h) (G : h.Ns mainGlobals mg) (hfa : mg "law" = some (.ref fa))
    {f0 f1 f2 f3 f4 f5 f6 f7 f8 f9 f10 f11 f12 f13 f14 f15 f16 f17 f18 f19 f20 f21 f22 f23 f24 f25 f26 f27 : Addr} {od0 an0 od1 an1 od2 an2 od3 an3 od4 an4 od5 an5 od6 an6 od7 an7 od8 an8 od9 an9 od10 an10 od11 an11 od12 an12 od13 an13 od14 an14 od15 an15 od16 an16 od17 an17 od18 an18 od19 an19 od20 an20 od21 an21 od22 an22 od23 an23 od24 an24 od25 an25 od26 an26 od27 an27 : Option Addr} {sl0 sl1 sl2 sl3 sl4 sl5 sl6 sl7 sl8 sl9 sl10 sl11 sl12 sl13 sl14 sl15 sl16 sl17 sl18 sl19 sl20 sl21 sl22 sl23 sl24 sl25 sl26 sl27 : Array (Option Value)} {oc0 kV0 dc0 pm0 ct0 cd0 oc1 kV1 dc1 pm1 ct1 cd1 oc2 kV2 dc2 pm2 ct2 cd2 oc3 kV3 dc3 pm3 ct3 cd3 oc4 kV4 dc4 pm4 ct4 cd4 oc5 kV5 dc5 pm5 ct5 cd5 oc6 kV6 dc6 pm6 ct6 cd6 oc7 kV7 dc7 pm7 ct7 cd7 oc8 kV8 dc8 pm8 ct8 cd8 oc9 kV9 dc9 pm9 ct9 cd9 oc10 kV10 dc10 pm10 ct10 cd10 oc11 kV11 dc11 pm11 ct11 cd11 oc12 kV12 dc12 pm12 ct12 cd12 oc13 kV13 dc13 pm13 ct13 cd13 oc14 kV14 dc14 pm14 ct14 cd14 oc15 kV15 dc15 pm15 ct15 cd15 oc16 kV16 dc16 pm16 ct16 cd16 oc17 kV17 dc17 pm17 ct17 cd17 oc18 kV18 dc18 pm18 ct18 cd18 oc19 kV19 dc19 pm19 ct19 cd19 oc20 kV20 dc20 pm20 ct20 cd20 oc21 kV21 dc21 pm21 ct21 cd21 oc22 kV22 dc22 pm22 ct22 cd22 oc23 kV23 dc23 pm23 ct23 cd23 oc24 kV24 dc24 pm24 ct24 cd24 oc25 kV25 dc25 pm25 ct25 cd25 oc26 kV26 dc26 pm26 ct26 cd26 oc27 kV27 dc27 pm27 ct27 : Value}
    (a0 : PySem.W.nsIn K mainGlobals "are_figures" = some (some (.ref f0))) (l0 : K.lookup f0 = some ⟨oc0, od0, .func (PySem.W.fnOf "are_figures" "are_figures" (defArgs s_are_figures) (defBody s_are_figures) (defScope s_are_figures) .none kV0 dc0 pm0 an0 cd0 ct0), sl0⟩) (c0 : PySem.W.codeIn K cd0 "are_figures" = true) (k0 : PySem.W.keepIn K (.ref f0) = true)
    (a1 : PySem.W.nsIn K mainGlobals "is_number" = some (some (.ref f1))) (l1 : K.lookup f1 = some ⟨oc1, od1, .func (PySem.W.fnOf "is_number" "is_number" (defArgs s_is_number) (defBody s_is_number) (defScope s_is_number) .none kV1 dc1 pm1 an1 cd1 ct1), sl1⟩) (c1 : PySem.W.codeIn K cd1 "is_number" = true) (k1 : PySem.W.keepIn K (.ref f1) = true)
    (a2 : PySem.W.nsIn K mainGlobals "is_word" = some (some (.ref f2))) (l2 : K.lookup f2 = some ⟨oc2, od2, .func (PySem.W.fnOf "is_word" "is_word" (defArgs s_is_word) (defBody s_is_word) (defScope s_is_word) .none kV2 dc2 pm2 an2 cd2 ct2), sl2⟩) (c2 : PySem.W.codeIn K cd2 "is_word" = true) (k2 : PySem.W.keepIn K (.ref f2) = true)
    (a3 : PySem.W.nsIn K mainGlobals "is_rule" = some (some (.ref f3))) (l3 : K.lookup f3 = some ⟨oc3, od3, .func (PySem.W.fnOf "is_rule" "is_rule" (defArgs s_is_rule) (defBody s_is_rule) (defScope s_is_rule) .none kV3 dc3 pm3 an3 cd3 ct3), sl3⟩) (c3 : PySem.W.codeIn K cd3 "is_rule" = true) (k3 : PySem.W.keepIn K (.ref f3) = true)
    (a4 : PySem.W.nsIn K mainGlobals "is_table" = some (some (.ref f4))) (l4 : K.lookup f4 = some ⟨oc4, od4, .func (PySem.W.fnOf "is_table" "is_table" (defArgs s_is_table) (defBody s_is_table) (defScope s_is_table) .none kV4 dc4 pm4 an4 cd4 ct4), sl4⟩) (c4 : PySem.W.codeIn K cd4 "is_table" = true) (k4 : PySem.W.keepIn K (.ref f4) = true)
    (a5 : PySem.W.nsIn K mainGlobals "rows_text" = some (some (.ref f5))) (l5 : K.lookup f5 = some ⟨oc5, od5, .func (PySem.W.fnOf "rows_text" "rows_text" (defArgs s_rows_text) (defBody s_rows_text) (defScope s_rows_text) .none kV5 dc5 pm5 an5 cd5 ct5), sl5⟩) (c5 : PySem.W.codeIn K cd5 "rows_text" = true) (k5 : PySem.W.keepIn K (.ref f5) = true)
    (a6 : PySem.W.nsIn K mainGlobals "rule_words" = some (some (.ref f6))) (l6 : K.lookup f6 = some ⟨oc6, od6, .func (PySem.W.fnOf "rule_words" "rule_words" (defArgs s_rule_words) (defBody s_rule_words) (defScope s_rule_words) .none kV6 dc6 pm6 an6 cd6 ct6), sl6⟩) (c6 : PySem.W.codeIn K cd6 "rule_words" = true) (k6 : PySem.W.keepIn K (.ref f6) = true)
    (a7 : PySem.W.nsIn K mainGlobals "table_text" = some (some (.ref f7))) (l7 : K.lookup f7 = some ⟨oc7, od7, .func (PySem.W.fnOf "table_text" "table_text" (defArgs s_table_text) (defBody s_table_text) (defScope s_table_text) .none kV7 dc7 pm7 an7 cd7 ct7), sl7⟩) (c7 : PySem.W.codeIn K cd7 "table_text" = true) (k7 : PySem.W.keepIn K (.ref f7) = true)
    (a8 : PySem.W.nsIn K mainGlobals "sample_text" = some (some (.ref f8))) (l8 : K.lookup f8 = some ⟨oc8, od8, .func (PySem.W.fnOf "sample_text" "sample_text" (defArgs s_sample_text) (defBody s_sample_text) (defScope s_sample_text) .none kV8 dc8 pm8 an8 cd8 ct8), sl8⟩) (c8 : PySem.W.codeIn K cd8 "sample_text" = true) (k8 : PySem.W.keepIn K (.ref f8) = true)
    (a9 : PySem.W.nsIn K mainGlobals "need" = some (some (.ref f9))) (l9 : K.lookup f9 = some ⟨oc9, od9, .func (PySem.W.fnOf "need" "need" (defArgs s_need) (defBody s_need) (defScope s_need) .none kV9 dc9 pm9 an9 cd9 ct9), sl9⟩) (c9 : PySem.W.codeIn K cd9 "need" = true) (k9 : PySem.W.keepIn K (.ref f9) = true)
    (a10 : PySem.W.nsIn K mainGlobals "rows_of" = some (some (.ref f10))) (l10 : K.lookup f10 = some ⟨oc10, od10, .func (PySem.W.fnOf "rows_of" "rows_of" (defArgs s_rows_of) (defBody s_rows_of) (defScope s_rows_of) .none kV10 dc10 pm10 an10 cd10 ct10), sl10⟩) (c10 : PySem.W.codeIn K cd10 "rows_of" = true) (k10 : PySem.W.keepIn K (.ref f10) = true)
    (a11 : PySem.W.nsIn K mainGlobals "rule_of" = some (some (.ref f11))) (l11 : K.lookup f11 = some ⟨oc11, od11, .func (PySem.W.fnOf "rule_of" "rule_of" (defArgs s_rule_of) (defBody s_rule_of) (defScope s_rule_of) .none kV11 dc11 pm11 an11 cd11 ct11), sl11⟩) (c11 : PySem.W.codeIn K cd11 "rule_of" = true) (k11 : PySem.W.keepIn K (.ref f11) = true)
    (a12 : PySem.W.nsIn K mainGlobals "read_table" = some (some (.ref f12))) (l12 : K.lookup f12 = some ⟨oc12, od12, .func (PySem.W.fnOf "read_table" "read_table" (defArgs s_read_table) (defBody s_read_table) (defScope s_read_table) .none kV12 dc12 pm12 an12 cd12 ct12), sl12⟩) (c12 : PySem.W.codeIn K cd12 "read_table" = true) (k12 : PySem.W.keepIn K (.ref f12) = true)
    (a13 : PySem.W.nsIn K mainGlobals "pair_of" = some (some (.ref f13))) (l13 : K.lookup f13 = some ⟨oc13, od13, .func (PySem.W.fnOf "pair_of" "pair_of" (defArgs s_pair_of) (defBody s_pair_of) (defScope s_pair_of) .none kV13 dc13 pm13 an13 cd13 ct13), sl13⟩) (c13 : PySem.W.codeIn K cd13 "pair_of" = true) (k13 : PySem.W.keepIn K (.ref f13) = true)
    (a14 : PySem.W.nsIn K mainGlobals "read_sample" = some (some (.ref f14))) (l14 : K.lookup f14 = some ⟨oc14, od14, .func (PySem.W.fnOf "read_sample" "read_sample" (defArgs s_read_sample) (defBody s_read_sample) (defScope s_read_sample) .none kV14 dc14 pm14 an14 cd14 ct14), sl14⟩) (c14 : PySem.W.codeIn K cd14 "read_sample" = true) (k14 : PySem.W.keepIn K (.ref f14) = true)
    (a15 : PySem.W.nsIn K mainGlobals "_law_cell_at" = some (some (.ref f15))) (l15 : K.lookup f15 = some ⟨oc15, od15, .func (PySem.W.fnOf "_law_cell_at" "_law_cell_at" (defArgs s_l_cell_at) (defBody s_l_cell_at) (defScope s_l_cell_at) .none kV15 dc15 pm15 an15 cd15 ct15), sl15⟩) (c15 : PySem.W.codeIn K cd15 "_law_cell_at" = true) (k15 : PySem.W.keepIn K (.ref f15) = true)
    (a16 : PySem.W.nsIn K mainGlobals "_law_mixed" = some (some (.ref f16))) (l16 : K.lookup f16 = some ⟨oc16, od16, .func (PySem.W.fnOf "_law_mixed" "_law_mixed" (defArgs s_l_mixed) (defBody s_l_mixed) (defScope s_l_mixed) .none kV16 dc16 pm16 an16 cd16 ct16), sl16⟩) (c16 : PySem.W.codeIn K cd16 "_law_mixed" = true) (k16 : PySem.W.keepIn K (.ref f16) = true)
    (a17 : PySem.W.nsIn K mainGlobals "_law_drawn" = some (some (.ref f17))) (l17 : K.lookup f17 = some ⟨oc17, od17, .func (PySem.W.fnOf "_law_drawn" "_law_drawn" (defArgs s_l_drawn) (defBody s_l_drawn) (defScope s_l_drawn) .none kV17 dc17 pm17 an17 cd17 ct17), sl17⟩) (c17 : PySem.W.codeIn K cd17 "_law_drawn" = true) (k17 : PySem.W.keepIn K (.ref f17) = true)
    (a18 : PySem.W.nsIn K mainGlobals "_law_figures" = some (some (.ref f18))) (l18 : K.lookup f18 = some ⟨oc18, od18, .func (PySem.W.fnOf "_law_figures" "_law_figures" (defArgs s_l_figures) (defBody s_l_figures) (defScope s_l_figures) .none kV18 dc18 pm18 an18 cd18 ct18), sl18⟩) (c18 : PySem.W.codeIn K cd18 "_law_figures" = true) (k18 : PySem.W.keepIn K (.ref f18) = true)
    (a19 : PySem.W.nsIn K mainGlobals "_law_rule" = some (some (.ref f19))) (l19 : K.lookup f19 = some ⟨oc19, od19, .func (PySem.W.fnOf "_law_rule" "_law_rule" (defArgs s_l_rule) (defBody s_l_rule) (defScope s_l_rule) .none kV19 dc19 pm19 an19 cd19 ct19), sl19⟩) (c19 : PySem.W.codeIn K cd19 "_law_rule" = true) (k19 : PySem.W.keepIn K (.ref f19) = true)
    (a20 : PySem.W.nsIn K mainGlobals "_law_table" = some (some (.ref f20))) (l20 : K.lookup f20 = some ⟨oc20, od20, .func (PySem.W.fnOf "_law_table" "_law_table" (defArgs s_l_table) (defBody s_l_table) (defScope s_l_table) .none kV20 dc20 pm20 an20 cd20 ct20), sl20⟩) (c20 : PySem.W.codeIn K cd20 "_law_table" = true) (k20 : PySem.W.keepIn K (.ref f20) = true)
    (a21 : PySem.W.nsIn K mainGlobals "_law_told" = some (some (.ref f21))) (l21 : K.lookup f21 = some ⟨oc21, od21, .func (PySem.W.fnOf "_law_told" "_law_told" (defArgs s_l_told) (defBody s_l_told) (defScope s_l_told) .none kV21 dc21 pm21 an21 cd21 ct21), sl21⟩) (c21 : PySem.W.codeIn K cd21 "_law_told" = true) (k21 : PySem.W.keepIn K (.ref f21) = true)
    (a22 : PySem.W.nsIn K mainGlobals "_law_sample" = some (some (.ref f22))) (l22 : K.lookup f22 = some ⟨oc22, od22, .func (PySem.W.fnOf "_law_sample" "_law_sample" (defArgs s_l_sample) (defBody s_l_sample) (defScope s_l_sample) .none kV22 dc22 pm22 an22 cd22 ct22), sl22⟩) (c22 : PySem.W.codeIn K cd22 "_law_sample" = true) (k22 : PySem.W.keepIn K (.ref f22) = true)
    (a23 : PySem.W.nsIn K mainGlobals "_law_is_sample" = some (some (.ref f23))) (l23 : K.lookup f23 = some ⟨oc23, od23, .func (PySem.W.fnOf "_law_is_sample" "_law_is_sample" (defArgs s_l_is_sample) (defBody s_l_is_sample) (defScope s_l_is_sample) .none kV23 dc23 pm23 an23 cd23 ct23), sl23⟩) (c23 : PySem.W.codeIn K cd23 "_law_is_sample" = true) (k23 : PySem.W.keepIn K (.ref f23) = true)
    (a24 : PySem.W.nsIn K mainGlobals "_law_bent" = some (some (.ref f24))) (l24 : K.lookup f24 = some ⟨oc24, od24, .func (PySem.W.fnOf "_law_bent" "_law_bent" (defArgs s_l_bent) (defBody s_l_bent) (defScope s_l_bent) .none kV24 dc24 pm24 an24 cd24 ct24), sl24⟩) (c24 : PySem.W.codeIn K cd24 "_law_bent" = true) (k24 : PySem.W.keepIn K (.ref f24) = true)
    (a25 : PySem.W.nsIn K mainGlobals "_law_read" = some (some (.ref f25))) (l25 : K.lookup f25 = some ⟨oc25, od25, .func (PySem.W.fnOf "_law_read" "_law_read" (defArgs s_l_read) (defBody s_l_read) (defScope s_l_read) .none kV25 dc25 pm25 an25 cd25 ct25), sl25⟩) (c25 : PySem.W.codeIn K cd25 "_law_read" = true) (k25 : PySem.W.keepIn K (.ref f25) = true)
    (a26 : PySem.W.nsIn K mainGlobals "_law_good" = some (some (.ref f26))) (l26 : K.lookup f26 = some ⟨oc26, od26, .func (PySem.W.fnOf "_law_good" "_law_good" (defArgs s_l_good) (defBody s_l_good) (defScope s_l_good) .none kV26 dc26 pm26 an26 cd26 ct26), sl26⟩) (c26 : PySem.W.codeIn K cd26 "_law_good" = true) (k26 : PySem.W.keepIn K (.ref f26) = true)
    {cc27 PP27 : Addr} {ce27 : Value} {cdd27 : Option Addr} {cv27 : Array Value} {csl27 : Array (Option Value)} (a27 : PySem.W.nsIn K mainGlobals "law" = some (some (.ref f27))) (l27 : K.lookup f27 = some ⟨oc27, od27, .func (PySem.W.fnOf "law" "law" (defArgs s_law_k64) (defBody s_law_k64) (defScope s_law_k64) .none kV27 dc27 pm27 an27 (.ref cc27) ct27), sl27⟩) (c27 : PySem.W.codeIn K (.ref cc27) "law" = true) (k27 : PySem.W.keepIn K (.ref f27) = true) (m27 : K.lookup cc27 = some ⟨ce27, cdd27, .fields cv27, csl27⟩) (v27 : cv27[11]? = some (.ref PP27))
    (z_all : PySem.W.nsIn K mainGlobals "all" = some none)
    (z_bool : PySem.W.nsIn K mainGlobals "bool" = some none)
    (z_int : PySem.W.nsIn K mainGlobals "int" = some none)
    (z_isinstance : PySem.W.nsIn K mainGlobals "isinstance" = some none)
    (z_len : PySem.W.nsIn K mainGlobals "len" = some none)
    (z_max : PySem.W.nsIn K mainGlobals "max" = some none)
    (z_min : PySem.W.nsIn K mainGlobals "min" = some none)
    (z_range : PySem.W.nsIn K mainGlobals "range" = some none)
    (z_set : PySem.W.nsIn K mainGlobals "set" = some none)
    (z_sorted : PySem.W.nsIn K mainGlobals "sorted" = some none)
    (z_str : PySem.W.nsIn K mainGlobals "str" = some none)
    (z_tuple : PySem.W.nsIn K mainGlobals "tuple" = some none)
    (z_zip : PySem.W.nsIn K mainGlobals "zip" = some none)
    {tk_EMPTY : Tok} (q_EMPTY : PySem.W.nsIn K mainGlobals "EMPTY" = some (some (.str ⟨([42] : List Nat).toArray⟩ tk_EMPTY)))
    {tk_FIGURES : Tok} (q_FIGURES : PySem.W.nsIn K mainGlobals "FIGURES" = some (some (.str ⟨([48, 49, 50, 51, 52, 53, 54, 55, 56, 57] : List Nat).toArray⟩ tk_FIGURES)))
    {tk_LETTERS : Tok} (q_LETTERS : PySem.W.nsIn K mainGlobals "LETTERS" = some (some (.str ⟨([97, 98, 99, 100, 101, 102, 103, 104, 105, 106, 107, 108, 109, 110, 111, 112, 113, 114, 115, 116, 117, 118, 119, 120, 121, 122] : List Nat).toArray⟩ tk_LETTERS)))
    {tk_MOST_FIGURES : Tok} (q_MOST_FIGURES : PySem.W.nsIn K mainGlobals "MOST_FIGURES" = some (some (.int 12 tk_MOST_FIGURES)))
    {tk_MOST_RULES : Tok} (q_MOST_RULES : PySem.W.nsIn K mainGlobals "MOST_RULES" = some (some (.int 30 tk_MOST_RULES)))
    {tk_MOST_SAMPLE : Tok} (q_MOST_SAMPLE : PySem.W.nsIn K mainGlobals "MOST_SAMPLE" = some (some (.int 16 tk_MOST_SAMPLE)))
    {tk_MOST_WORD : Tok} (q_MOST_WORD : PySem.W.nsIn K mainGlobals "MOST_WORD" = some (some (.int 4 tk_MOST_WORD)))
    {tk_NOT_GOOD : Tok} (q_NOT_GOOD : PySem.W.nsIn K mainGlobals "NOT_GOOD" = some (some (.str ⟨([45] : List Nat).toArray⟩ tk_NOT_GOOD)))
    {tk_ROW_END : Tok} (q_ROW_END : PySem.W.nsIn K mainGlobals "ROW_END" = some (some (.str ⟨([10] : List Nat).toArray⟩ tk_ROW_END)))
    {C_NoText : Addr} (ea_NoText : PySem.W.nsIn K mainGlobals "NoText" = some (some (.ref C_NoText))) (ex_NoText : PySem.W.excIn K C_NoText [.type "ValueError", .type "Exception", .type "BaseException", .type "object"] "ValueError.__new__" = true) (ek_NoText : PySem.W.keepIn K (.ref C_NoText) = true) (eb_NoText : PySem.W.subIn K (.ref C_NoText) (.type "BaseException") = some true) (et_NoText : PySem.W.typeIn K (.ref C_NoText) = some (.type "type")) (ad_NoText : G0.adr 3 = C_NoText)
    {C_NoNumber : Addr} (ea_NoNumber : PySem.W.nsIn K mainGlobals "NoNumber" = some (some (.ref C_NoNumber))) (ad_NoNumber : G0.adr 0 = C_NoNumber)
    {C_Crossing : Addr} (ea_Crossing : PySem.W.nsIn K mainGlobals "Crossing" = some (some (.ref C_Crossing))) (ad_Crossing : G0.adr 1 = C_Crossing)
    {C_NoFigure : Addr} (ea_NoFigure : PySem.W.nsIn K mainGlobals "NoFigure" = some (some (.ref C_NoFigure))) (ad_NoFigure : G0.adr 2 = C_NoFigure)
    {CD : Addr} (t_nd : PySem.W.nsIn K mainGlobals "DialError" = some (some (.ref CD))) (t_bi : PySem.W.nsIn K mainGlobals "isinstance" = some none) (t_bv : PySem.W.nsIn K mainGlobals "ValueError" = some none) (t_sd : PySem.W.subIn K (.ref CD) (.type "BaseException") = some true) (t_dd : PySem.W.hasDictIn K CD = true) (t_td : PySem.W.typeIn K (.ref CD) = some (.type "type"))
    (t_s0 : PySem.W.subIn K (.ref C_NoNumber) (.ref CD) = some true) (t_v0 : PySem.W.kitOne K (.ref C_NoNumber) (.type "ValueError") = some true)
    (t_k00 : PySem.W.kitOne K (.ref C_NoNumber) (.ref C_NoNumber) = some true)
    (t_k01 : PySem.W.kitOne K (.ref C_NoNumber) (.ref C_Crossing) = some false)
    (t_k02 : PySem.W.kitOne K (.ref C_NoNumber) (.ref C_NoFigure) = some false)
    (t_k03 : PySem.W.kitOne K (.ref C_NoNumber) (.ref C_NoText) = some false)
    (t_hg0 : PySem.W.findIn K (.ref C_NoNumber) "__getattribute__" = some (some (.builtin "BaseException.__getattribute__"))) (t_hk0 : PySem.W.findIn K (.ref C_NoNumber) "__getattr__" = some none) (t_hs0 : PySem.W.subIn K (.ref C_NoNumber) (.type "BaseException") = some true) (t_hd0 : PySem.W.hasDictIn K C_NoNumber = true) (t_ha0 : PySem.W.findIn K (.ref C_NoNumber) "__class__" = some (some (.builtin "object.__class__"))) (t_hm0 : PySem.W.mroIn K C_NoNumber (.type "object") = some true)
    (t_s1 : PySem.W.subIn K (.ref C_Crossing) (.ref CD) = some true) (t_v1 : PySem.W.kitOne K (.ref C_Crossing) (.type "ValueError") = some true)
    (t_k10 : PySem.W.kitOne K (.ref C_Crossing) (.ref C_NoNumber) = some false)
    (t_k11 : PySem.W.kitOne K (.ref C_Crossing) (.ref C_Crossing) = some true)
    (t_k12 : PySem.W.kitOne K (.ref C_Crossing) (.ref C_NoFigure) = some false)
    (t_k13 : PySem.W.kitOne K (.ref C_Crossing) (.ref C_NoText) = some false)
    (t_hg1 : PySem.W.findIn K (.ref C_Crossing) "__getattribute__" = some (some (.builtin "BaseException.__getattribute__"))) (t_hk1 : PySem.W.findIn K (.ref C_Crossing) "__getattr__" = some none) (t_hs1 : PySem.W.subIn K (.ref C_Crossing) (.type "BaseException") = some true) (t_hd1 : PySem.W.hasDictIn K C_Crossing = true) (t_ha1 : PySem.W.findIn K (.ref C_Crossing) "__class__" = some (some (.builtin "object.__class__"))) (t_hm1 : PySem.W.mroIn K C_Crossing (.type "object") = some true)
    (t_s2 : PySem.W.subIn K (.ref C_NoFigure) (.ref CD) = some true) (t_v2 : PySem.W.kitOne K (.ref C_NoFigure) (.type "ValueError") = some true)
    (t_k20 : PySem.W.kitOne K (.ref C_NoFigure) (.ref C_NoNumber) = some false)
    (t_k21 : PySem.W.kitOne K (.ref C_NoFigure) (.ref C_Crossing) = some false)
    (t_k22 : PySem.W.kitOne K (.ref C_NoFigure) (.ref C_NoFigure) = some true)
    (t_k23 : PySem.W.kitOne K (.ref C_NoFigure) (.ref C_NoText) = some false)
    (t_hg2 : PySem.W.findIn K (.ref C_NoFigure) "__getattribute__" = some (some (.builtin "BaseException.__getattribute__"))) (t_hk2 : PySem.W.findIn K (.ref C_NoFigure) "__getattr__" = some none) (t_hs2 : PySem.W.subIn K (.ref C_NoFigure) (.type "BaseException") = some true) (t_hd2 : PySem.W.hasDictIn K C_NoFigure = true) (t_ha2 : PySem.W.findIn K (.ref C_NoFigure) "__class__" = some (some (.builtin "object.__class__"))) (t_hm2 : PySem.W.mroIn K C_NoFigure (.type "object") = some true)
    (t_s3 : PySem.W.subIn K (.ref C_NoText) (.ref CD) = some true) (t_v3 : PySem.W.kitOne K (.ref C_NoText) (.type "ValueError") = some true)
    (t_k30 : PySem.W.kitOne K (.ref C_NoText) (.ref C_NoNumber) = some false)
    (t_k31 : PySem.W.kitOne K (.ref C_NoText) (.ref C_Crossing) = some false)
    (t_k32 : PySem.W.kitOne K (.ref C_NoText) (.ref C_NoFigure) = some false)
    (t_k33 : PySem.W.kitOne K (.ref C_NoText) (.ref C_NoText) = some true)
    (t_hg3 : PySem.W.findIn K (.ref C_NoText) "__getattribute__" = some (some (.builtin "BaseException.__getattribute__"))) (t_hk3 : PySem.W.findIn K (.ref C_NoText) "__getattr__" = some none) (t_hs3 : PySem.W.subIn K (.ref C_NoText) (.type "BaseException") = some true) (t_hd3 : PySem.W.hasDictIn K C_NoText = true) (t_ha3 : PySem.W.findIn K (.ref C_NoText) "__class__" = some (some (.builtin "object.__class__"))) (t_hm3 : PySem.W.mroIn K C_NoText (.type "object") = some true)
    (t_hn : PySem.W.specialIn K (.builtin "object.__class__") "__get__" = some (some (.builtin "getset_descriptor.__get__"))) (t_ht : PySem.W.takesIn K (.builtin "object.__class__") = some true)
    (nT : PySem.W.noTabs K = true) (h0 : G0.T = [(PP27, ("law" : Str) ++ ".<locals>." ++ "<lambda>")])  {RQ : Str → Bool} (OT : ∀ (y : Str) (f : Addr), RQ y = true → mg y = some (.ref f) → OwnT K f h) (r27 : RQ "law" = true) (TL : ∀ ns : List Int, ns.length ≤ 63 → f_law_k64 [.scr ns] = .ok (.bl true))
    : LamX.LawAtS l w K (L2.CX l.prog w) 8 63 "script" mg fa h := by
  have e := hfa.symm.trans (PySem.W.mg_of X G a27)
  cases e
  have Bi : Bi mg := ⟨PySem.W.mg_none_of X G z_all, PySem.W.mg_none_of X G z_bool, PySem.W.mg_none_of X G z_int, PySem.W.mg_none_of X G z_isinstance, PySem.W.mg_none_of X G z_len, PySem.W.mg_none_of X G z_max, PySem.W.mg_none_of X G z_min, PySem.W.mg_none_of X G z_range, PySem.W.mg_none_of X G z_set, PySem.W.mg_none_of X G z_sorted, PySem.W.mg_none_of X G z_str, PySem.W.mg_none_of X G z_tuple, PySem.W.mg_none_of X G z_zip, ⟨_, PySem.W.mg_of X G q_EMPTY, ⟨_, rfl⟩⟩, ⟨_, PySem.W.mg_of X G q_FIGURES, ⟨_, rfl⟩⟩, ⟨_, PySem.W.mg_of X G q_LETTERS, ⟨_, rfl⟩⟩, ⟨_, PySem.W.mg_of X G q_MOST_FIGURES, ⟨_, rfl⟩⟩, ⟨_, PySem.W.mg_of X G q_MOST_RULES, ⟨_, rfl⟩⟩, ⟨_, PySem.W.mg_of X G q_MOST_SAMPLE, ⟨_, rfl⟩⟩, ⟨_, PySem.W.mg_of X G q_MOST_WORD, ⟨_, rfl⟩⟩, ⟨_, PySem.W.mg_of X G q_NOT_GOOD, ⟨_, rfl⟩⟩, ⟨_, PySem.W.mg_of X G q_ROW_END, ⟨_, rfl⟩⟩⟩
  have D0 : DefIn K mg "are_figures" s_are_figures ["thing", "least", "most"] := defIn_mk X G _ a0 l0 c0 k0 fun _ _ _ _ _ _ us hl => match us, hl with | [_, _, _], _ => rfl
  have D1 : DefIn K mg "is_number" s_is_number ["thing"] := defIn_mk X G _ a1 l1 c1 k1 fun _ _ _ _ _ _ us hl => match us, hl with | [_], _ => rfl
  have D2 : DefIn K mg "is_word" s_is_word ["thing"] := defIn_mk X G _ a2 l2 c2 k2 fun _ _ _ _ _ _ us hl => match us, hl with | [_], _ => rfl
  have D3 : DefIn K mg "is_rule" s_is_rule ["thing"] := defIn_mk X G _ a3 l3 c3 k3 fun _ _ _ _ _ _ us hl => match us, hl with | [_], _ => rfl
  have D4 : DefIn K mg "is_table" s_is_table ["thing"] := defIn_mk X G _ a4 l4 c4 k4 fun _ _ _ _ _ _ us hl => match us, hl with | [_], _ => rfl
  have D5 : DefIn K mg "rows_text" s_rows_text ["rows"] := defIn_mk X G _ a5 l5 c5 k5 fun _ _ _ _ _ _ us hl => match us, hl with | [_], _ => rfl
  have D6 : DefIn K mg "rule_words" s_rule_words ["rule"] := defIn_mk X G _ a6 l6 c6 k6 fun _ _ _ _ _ _ us hl => match us, hl with | [_], _ => rfl
  have D7 : DefIn K mg "table_text" s_table_text ["table"] := defIn_mk X G _ a7 l7 c7 k7 fun _ _ _ _ _ _ us hl => match us, hl with | [_], _ => rfl
  have D8 : DefIn K mg "sample_text" s_sample_text ["sample"] := defIn_mk X G _ a8 l8 c8 k8 fun _ _ _ _ _ _ us hl => match us, hl with | [_], _ => rfl
  have D9 : DefIn K mg "need" s_need ["good"] := defIn_mk X G _ a9 l9 c9 k9 fun _ _ _ _ _ _ us hl => match us, hl with | [_], _ => rfl
  have D10 : DefIn K mg "rows_of" s_rows_of ["text"] := defIn_mk X G _ a10 l10 c10 k10 fun _ _ _ _ _ _ us hl => match us, hl with | [_], _ => rfl
  have D11 : DefIn K mg "rule_of" s_rule_of ["words"] := defIn_mk X G _ a11 l11 c11 k11 fun _ _ _ _ _ _ us hl => match us, hl with | [_], _ => rfl
  have D12 : DefIn K mg "read_table" s_read_table ["text"] := defIn_mk X G _ a12 l12 c12 k12 fun _ _ _ _ _ _ us hl => match us, hl with | [_], _ => rfl
  have D13 : DefIn K mg "pair_of" s_pair_of ["words"] := defIn_mk X G _ a13 l13 c13 k13 fun _ _ _ _ _ _ us hl => match us, hl with | [_], _ => rfl
  have D14 : DefIn K mg "read_sample" s_read_sample ["text"] := defIn_mk X G _ a14 l14 c14 k14 fun _ _ _ _ _ _ us hl => match us, hl with | [_], _ => rfl
  have D15 : DefIn K mg "_law_cell_at" s_l_cell_at ["script", "k"] := defIn_mk X G _ a15 l15 c15 k15 fun _ _ _ _ _ _ us hl => match us, hl with | [_, _], _ => rfl
  have D16 : DefIn K mg "_law_mixed" s_l_mixed ["script", "k"] := defIn_mk X G _ a16 l16 c16 k16 fun _ _ _ _ _ _ us hl => match us, hl with | [_, _], _ => rfl
  have D17 : DefIn K mg "_law_drawn" s_l_drawn ["number", "k"] := defIn_mk X G _ a17 l17 c17 k17 fun _ _ _ _ _ _ us hl => match us, hl with | [_, _], _ => rfl
  have D18 : DefIn K mg "_law_figures" s_l_figures ["number", "most"] := defIn_mk X G _ a18 l18 c18 k18 fun _ _ _ _ _ _ us hl => match us, hl with | [_, _], _ => rfl
  have D19 : DefIn K mg "_law_rule" s_l_rule ["number"] := defIn_mk X G _ a19 l19 c19 k19 fun _ _ _ _ _ _ us hl => match us, hl with | [_], _ => rfl
  have D20 : DefIn K mg "_law_table" s_l_table ["number", "most"] := defIn_mk X G _ a20 l20 c20 k20 fun _ _ _ _ _ _ us hl => match us, hl with | [_, _], _ => rfl
  have D21 : DefIn K mg "_law_told" s_l_told ["deed"] := defIn_mk X G _ a21 l21 c21 k21 fun _ _ _ _ _ _ us hl => match us, hl with | [_], _ => rfl
  have D22 : DefIn K mg "_law_sample" s_l_sample ["number", "most"] := defIn_mk X G _ a22 l22 c22 k22 fun _ _ _ _ _ _ us hl => match us, hl with | [_, _], _ => rfl
  have D23 : DefIn K mg "_law_is_sample" s_l_is_sample ["thing"] := defIn_mk X G _ a23 l23 c23 k23 fun _ _ _ _ _ _ us hl => match us, hl with | [_], _ => rfl
  have D24 : DefIn K mg "_law_bent" s_l_bent ["text", "number"] := defIn_mk X G _ a24 l24 c24 k24 fun _ _ _ _ _ _ us hl => match us, hl with | [_, _], _ => rfl
  have D25 : DefIn K mg "_law_read" s_l_read ["kind", "text"] := defIn_mk X G _ a25 l25 c25 k25 fun _ _ _ _ _ _ us hl => match us, hl with | [_, _], _ => rfl
  have D26 : DefIn K mg "_law_good" s_l_good ["kind", "thing", "text"] := defIn_mk X G _ a26 l26 c26 k26 fun _ _ _ _ _ _ us hl => match us, hl with | [_, _, _], _ => rfl
  have Er : Er K mg := ⟨errIn_mk X G ad_NoText ea_NoText ex_NoText ek_NoText eb_NoText et_NoText⟩
  have TI_told : ToldIn K mg := told_mk X G ad_NoNumber ad_Crossing ad_NoFigure ad_NoText t_nd ea_NoNumber ea_Crossing ea_NoFigure ea_NoText t_bi t_bv t_sd t_dd t_td t_s0 t_s1 t_s2 t_s3 t_k00 t_k01 t_k02 t_k03 t_k10 t_k11 t_k12 t_k13 t_k20 t_k21 t_k22 t_k23 t_k30 t_k31 t_k32 t_k33 t_v0 t_v1 t_v2 t_v3 ⟨t_hg0, t_hk0, t_hs0, t_hd0, t_ha0, t_hn, t_ht, t_hm0⟩ ⟨t_hg1, t_hk1, t_hs1, t_hd1, t_ha1, t_hn, t_ht, t_hm1⟩ ⟨t_hg2, t_hk2, t_hs2, t_hd2, t_ha2, t_hn, t_ht, t_hm2⟩ ⟨t_hg3, t_hk3, t_hs3, t_hd3, t_ha3, t_hn, t_ht, t_hm3⟩
  have H27 := tab_at (OT "law" _ r27 (PySem.W.mg_of X G a27)) l27 rfl m27 v27
  have n27 := noTab_lookup X nT H27.1
  have M27 : (PP27, ("law" : Str) ++ ".<locals>." ++ "<lambda>") ∈ G0.T := by rw [h0]; simp
  have U27 : ∀ p ∈ G0.T, p.1 = PP27 → p.2 = ("law" : Str) ++ ".<locals>." ++ "<lambda>" := by
    intro p hp e
    rw [h0] at hp
    simp only [List.mem_cons, List.mem_nil_iff, or_false, List.not_mem_nil] at hp
    rw [hp]
  have FL := funC_mk (st := s_law_k64) l27 c27 k27
  refine lawAtT (fd := PySem.W.fnOf "law" "law" (defArgs s_law_k64) (defBody s_law_k64) (defScope s_law_k64) .none kV27 dc27 pm27 an27 (.ref cc27) ct27) [(cc27, PP27)] (fun p hp => by rw [h0] at hp; simp only [List.mem_cons, List.mem_nil_iff, or_false, List.not_mem_nil] at hp; simp only [List.map_cons, List.map_nil, List.mem_cons, List.mem_nil_iff, or_false, List.not_mem_nil]; rw [hp]) (fun p hp => by simp only [List.mem_cons, List.mem_nil_iff, or_false, List.not_mem_nil] at hp; subst hp; exact H27.1) (fun p hp => by simp only [List.mem_cons, List.mem_nil_iff, or_false, List.not_mem_nil] at hp; subst hp; exact n27) (fun p hp => by simp only [List.mem_cons, List.mem_nil_iff, or_false, List.not_mem_nil] at hp; subst hp; exact H27.2) (fun s v => .of_eq rfl) TL fun base _ _ TBs => ?_
  have TB27 : LamX.TabB base mg cc27 PP27 := TBs (cc27, PP27) (by simp)
  have F_are_figures := fn_are_figures (P := l.prog) (w := w) (base := base) Bi Er D0 
  have F_is_word := fn_is_word (P := l.prog) (w := w) (base := base) Bi Er D2 
  have F_rows_text := fn_rows_text (P := l.prog) (w := w) (base := base) Bi Er D5 
  have F_rule_words := fn_rule_words (P := l.prog) (w := w) (base := base) Bi Er D6 
  have F_need := fn_need (P := l.prog) (w := w) (base := base) Bi Er D9 
  have F_l_cell_at := fn_l_cell_at (P := l.prog) (w := w) (base := base) Bi Er D15 
  have F_l_drawn := fn_l_drawn (P := l.prog) (w := w) (base := base) Bi Er D17 
  have F_l_bent := fn_l_bent (P := l.prog) (w := w) (base := base) Bi Er D24 
  have F_is_number := fn_is_number (P := l.prog) (w := w) (base := base) Bi Er D1 F_are_figures
  have F_is_rule := fn_is_rule (P := l.prog) (w := w) (base := base) Bi Er D3 F_are_figures F_is_word
  have F_table_text := fn_table_text (P := l.prog) (w := w) (base := base) Bi Er D7 F_rows_text F_rule_words
  have F_sample_text := fn_sample_text (P := l.prog) (w := w) (base := base) Bi Er D8 F_rows_text
  have F_rows_of := fn_rows_of (P := l.prog) (w := w) (base := base) Bi Er D10 F_need
  have F_rule_of := fn_rule_of (P := l.prog) (w := w) (base := base) Bi Er D11 F_need
  have F_l_mixed := fn_l_mixed (P := l.prog) (w := w) (base := base) Bi Er D16 F_l_cell_at
  have F_l_figures := fn_l_figures (P := l.prog) (w := w) (base := base) Bi Er D18 F_l_drawn
  have F_l_sample := fn_l_sample (P := l.prog) (w := w) (base := base) Bi Er D22 F_l_drawn
  have F_is_table := fn_is_table (P := l.prog) (w := w) (base := base) Bi Er D4 F_is_rule
  have F_pair_of := fn_pair_of (P := l.prog) (w := w) (base := base) Bi Er D13 F_is_number F_is_word F_need
  have F_l_rule := fn_l_rule (P := l.prog) (w := w) (base := base) Bi Er D19 F_l_drawn F_l_figures
  have F_l_is_sample := fn_l_is_sample (P := l.prog) (w := w) (base := base) Bi Er D23 F_is_number
  have F_read_table := fn_read_table (P := l.prog) (w := w) (base := base) Bi Er D12 F_is_table F_table_text F_need F_rows_of F_rule_of
  have F_read_sample := fn_read_sample (P := l.prog) (w := w) (base := base) Bi Er D14 F_need F_rows_of F_pair_of
  have F_l_table := fn_l_table (P := l.prog) (w := w) (base := base) Bi Er D20 F_l_drawn F_l_rule
  have F_l_good := fn_l_good (P := l.prog) (w := w) (base := base) Bi Er D26 F_is_table F_table_text F_sample_text F_l_is_sample
  have F_l_read := fn_l_read (P := l.prog) (w := w) (base := base) Bi Er D25 F_read_table F_read_sample
  exact ok_law Bi Er TI_told D21 TB27 M27 U27 FL F_table_text F_sample_text F_l_mixed F_l_drawn F_l_table F_l_sample F_l_bent F_l_read F_l_good
end DD

open PySem PySem.W PyProof.Rows
set_option maxRecDepth 100000 in
set_option maxHeartbeats 0 in
theorem PySem.Challenge.cw_dialrules_k64_whole_nothing_else_read_holds : PySem.Challenge.rw_dialrules_k64_whole_nothing_else_read.Holds := by
  w_on; o_law; k_head; (case hw => w_witness2)
  k_fill
  refine DD.walk_tab (l := PySem.Challenge.rw_dialrules_k64_whole_nothing_else_read) (n := 63) (k := 8) (x := "script") (CX := fun w => L2.CX PySem.Challenge.rw_dialrules_k64_whole_nothing_else_read.prog w) rfl (by decide) rfl ⟨rfl, by decide, by decide⟩ (fun w h Y => PySem.W.km_in_of Y) ?F (fun _ _ _ _ _ h => DD.cx_end h)
  case F =>
    intro w mg fa h KX G hmg OT
    refine' DD.all_mk ⟨[(?PT27, ("law" : Str) ++ ".<locals>." ++ "<lambda>")], DD.adr4 ?C0 ?C1 ?C2 ?C3⟩ KX G hmg ?a0 ?l0 ?c0 ?k0 ?a1 ?l1 ?c1 ?k1 ?a2 ?l2 ?c2 ?k2 ?a3 ?l3 ?c3 ?k3 ?a4 ?l4 ?c4 ?k4 ?a5 ?l5 ?c5 ?k5 ?a6 ?l6 ?c6 ?k6 ?a7 ?l7 ?c7 ?k7 ?a8 ?l8 ?c8 ?k8 ?a9 ?l9 ?c9 ?k9 ?a10 ?l10 ?c10 ?k10 ?a11 ?l11 ?c11 ?k11 ?a12 ?l12 ?c12 ?k12 ?a13 ?l13 ?c13 ?k13 ?a14 ?l14 ?c14 ?k14 ?a15 ?l15 ?c15 ?k15 ?a16 ?l16 ?c16 ?k16 ?a17 ?l17 ?c17 ?k17 ?a18 ?l18 ?c18 ?k18 ?a19 ?l19 ?c19 ?k19 ?a20 ?l20 ?c20 ?k20 ?a21 ?l21 ?c21 ?k21 ?a22 ?l22 ?c22 ?k22 ?a23 ?l23 ?c23 ?k23 ?a24 ?l24 ?c24 ?k24 ?a25 ?l25 ?c25 ?k25 ?a26 ?l26 ?c26 ?k26 ?a27 ?l27 ?c27 ?k27 ?m27 ?v27 ?z_all ?z_bool ?z_int ?z_isinstance ?z_len ?z_max ?z_min ?z_range ?z_set ?z_sorted ?z_str ?z_tuple ?z_zip ?q_EMPTY ?q_FIGURES ?q_LETTERS ?q_MOST_FIGURES ?q_MOST_RULES ?q_MOST_SAMPLE ?q_MOST_WORD ?q_NOT_GOOD ?q_ROW_END ?ea_NoText ?ex_NoText ?ek_NoText ?eb_NoText ?et_NoText ?ad_NoText ?ea_NoNumber ?ad_NoNumber ?ea_Crossing ?ad_Crossing ?ea_NoFigure ?ad_NoFigure ?t_nd ?t_bi ?t_bv ?t_sd ?t_dd ?t_td ?t_s0 ?t_v0 ?t_k00 ?t_k01 ?t_k02 ?t_k03 ?t_hg0 ?t_hk0 ?t_hs0 ?t_hd0 ?t_ha0 ?t_hm0 ?t_s1 ?t_v1 ?t_k10 ?t_k11 ?t_k12 ?t_k13 ?t_hg1 ?t_hk1 ?t_hs1 ?t_hd1 ?t_ha1 ?t_hm1 ?t_s2 ?t_v2 ?t_k20 ?t_k21 ?t_k22 ?t_k23 ?t_hg2 ?t_hk2 ?t_hs2 ?t_hd2 ?t_ha2 ?t_hm2 ?t_s3 ?t_v3 ?t_k30 ?t_k31 ?t_k32 ?t_k33 ?t_hg3 ?t_hk3 ?t_hs3 ?t_hd3 ?t_ha3 ?t_hm3 ?t_hn ?t_ht ?nT ?h0  OT ?r27 DD.true_law_k64
    (case a0 => k_is)
    (case l0 => k_is)
    (case c0 => k_is)
    (case k0 => k_is)
    (case a1 => k_is)
    (case l1 => k_is)
    (case c1 => k_is)
    (case k1 => k_is)
    (case a2 => k_is)
    (case l2 => k_is)
    (case c2 => k_is)
    (case k2 => k_is)
    (case a3 => k_is)
    (case l3 => k_is)
    (case c3 => k_is)
    (case k3 => k_is)
    (case a4 => k_is)
    (case l4 => k_is)
    (case c4 => k_is)
    (case k4 => k_is)
    (case a5 => k_is)
    (case l5 => k_is)
    (case c5 => k_is)
    (case k5 => k_is)
    (case a6 => k_is)
    (case l6 => k_is)
    (case c6 => k_is)
    (case k6 => k_is)
    (case a7 => k_is)
    (case l7 => k_is)
    (case c7 => k_is)
    (case k7 => k_is)
    (case a8 => k_is)
    (case l8 => k_is)
    (case c8 => k_is)
    (case k8 => k_is)
    (case a9 => k_is)
    (case l9 => k_is)
    (case c9 => k_is)
    (case k9 => k_is)
    (case a10 => k_is)
    (case l10 => k_is)
    (case c10 => k_is)
    (case k10 => k_is)
    (case a11 => k_is)
    (case l11 => k_is)
    (case c11 => k_is)
    (case k11 => k_is)
    (case a12 => k_is)
    (case l12 => k_is)
    (case c12 => k_is)
    (case k12 => k_is)
    (case a13 => k_is)
    (case l13 => k_is)
    (case c13 => k_is)
    (case k13 => k_is)
    (case a14 => k_is)
    (case l14 => k_is)
    (case c14 => k_is)
    (case k14 => k_is)
    (case a15 => k_is)
    (case l15 => k_is)
    (case c15 => k_is)
    (case k15 => k_is)
    (case a16 => k_is)
    (case l16 => k_is)
    (case c16 => k_is)
    (case k16 => k_is)
    (case a17 => k_is)
    (case l17 => k_is)
    (case c17 => k_is)
    (case k17 => k_is)
    (case a18 => k_is)
    (case l18 => k_is)
    (case c18 => k_is)
    (case k18 => k_is)
    (case a19 => k_is)
    (case l19 => k_is)
    (case c19 => k_is)
    (case k19 => k_is)
    (case a20 => k_is)
    (case l20 => k_is)
    (case c20 => k_is)
    (case k20 => k_is)
    (case a21 => k_is)
    (case l21 => k_is)
    (case c21 => k_is)
    (case k21 => k_is)
    (case a22 => k_is)
    (case l22 => k_is)
    (case c22 => k_is)
    (case k22 => k_is)
    (case a23 => k_is)
    (case l23 => k_is)
    (case c23 => k_is)
    (case k23 => k_is)
    (case a24 => k_is)
    (case l24 => k_is)
    (case c24 => k_is)
    (case k24 => k_is)
    (case a25 => k_is)
    (case l25 => k_is)
    (case c25 => k_is)
    (case k25 => k_is)
    (case a26 => k_is)
    (case l26 => k_is)
    (case c26 => k_is)
    (case k26 => k_is)
    (case a27 => k_is)
    (case l27 => k_is)
    (case c27 => k_is)
    (case k27 => k_is)
    (case m27 => k_is)
    (case v27 => exact rfl)
    (case z_all => k_is)
    (case z_bool => k_is)
    (case z_int => k_is)
    (case z_isinstance => k_is)
    (case z_len => k_is)
    (case z_max => k_is)
    (case z_min => k_is)
    (case z_range => k_is)
    (case z_set => k_is)
    (case z_sorted => k_is)
    (case z_str => k_is)
    (case z_tuple => k_is)
    (case z_zip => k_is)
    (case q_EMPTY => k_is)
    (case q_FIGURES => k_is)
    (case q_LETTERS => k_is)
    (case q_MOST_FIGURES => k_is)
    (case q_MOST_RULES => k_is)
    (case q_MOST_SAMPLE => k_is)
    (case q_MOST_WORD => k_is)
    (case q_NOT_GOOD => k_is)
    (case q_ROW_END => k_is)
    (case ea_NoText => k_is)
    (case ex_NoText => k_exc)
    (case ek_NoText => k_is)
    (case eb_NoText => k_is)
    (case et_NoText => k_is)
    (case ad_NoText => rfl)
    (case ea_NoNumber => k_is)
    (case ad_NoNumber => rfl)
    (case ea_Crossing => k_is)
    (case ad_Crossing => rfl)
    (case ea_NoFigure => k_is)
    (case ad_NoFigure => rfl)
    (case t_nd => k_is)
    (case t_bi => k_is)
    (case t_bv => k_is)
    (case t_sd => k_is)
    (case t_dd => k_is)
    (case t_td => k_is)
    (case t_s0 => k_is)
    (case t_v0 => kit_is)
    (case t_k00 => kit_is)
    (case t_k01 => kit_is)
    (case t_k02 => kit_is)
    (case t_k03 => kit_is)
    (case t_hg0 => k_is)
    (case t_hk0 => k_is)
    (case t_hs0 => k_is)
    (case t_hd0 => k_is)
    (case t_ha0 => k_is)
    (case t_hm0 => k_is)
    (case t_s1 => k_is)
    (case t_v1 => kit_is)
    (case t_k10 => kit_is)
    (case t_k11 => kit_is)
    (case t_k12 => kit_is)
    (case t_k13 => kit_is)
    (case t_hg1 => k_is)
    (case t_hk1 => k_is)
    (case t_hs1 => k_is)
    (case t_hd1 => k_is)
    (case t_ha1 => k_is)
    (case t_hm1 => k_is)
    (case t_s2 => k_is)
    (case t_v2 => kit_is)
    (case t_k20 => kit_is)
    (case t_k21 => kit_is)
    (case t_k22 => kit_is)
    (case t_k23 => kit_is)
    (case t_hg2 => k_is)
    (case t_hk2 => k_is)
    (case t_hs2 => k_is)
    (case t_hd2 => k_is)
    (case t_ha2 => k_is)
    (case t_hm2 => k_is)
    (case t_s3 => k_is)
    (case t_v3 => kit_is)
    (case t_k30 => kit_is)
    (case t_k31 => kit_is)
    (case t_k32 => kit_is)
    (case t_k33 => kit_is)
    (case t_hg3 => k_is)
    (case t_hk3 => k_is)
    (case t_hs3 => k_is)
    (case t_hd3 => k_is)
    (case t_ha3 => k_is)
    (case t_hm3 => k_is)
    (case t_hn => k_is)
    (case t_ht => k_is)
    (case nT => (first | rfl | decide +kernel))
    (case r27 => (first | rfl | decide +kernel))
    (case h0 => rfl)
#print axioms PySem.Challenge.cw_dialrules_k64_whole_nothing_else_read_holds
