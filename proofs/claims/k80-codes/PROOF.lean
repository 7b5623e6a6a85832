import PyProof.Rows.All
import HandS.CallSlots
import HandS.Exc
import HandS.ExcCtx
import HandS.ExcField
import HandS.ExcInit
import HandS.ExcInitHot
import HandS.ExcIs
import HandS.ExcOwn
import HandS.ForMost
import HandS.HotCalls
import HandS.IsInst
import HandS.TryOnly
import HandS.TupAny
import HandS.Wide
import HandS.WideBits
import HandS.WordsExc
import KE.KExcIs
import PySem.Challenge.RW_bestbyeach_k80_codes_whole
set_option Elab.async false
set_option linter.all false
set_option maxRecDepth 100000
set_option maxHeartbeats 3900000
/-! the pure layer, part A: data without addresses, worlds, slots, what follows -/
namespace PL
open PySem PySem.Spec PyProof.Rows L2

/-- data -/
inductive D where
  | non | bl (b : Bool) | int (i : Int) | str (s : Str)
  | lst (xs : List D) | scl (xs : List D) | tup (xs : List D)
  | dct (kvs : List (Key × D))
  | obj (C : Str) (fs : List (Str × D))

/-- what follows a pure step -/
inductive Rs (α : Type) where
  | ok (a : α) | ex (C : Str) (fs : List (Str × D)) | bad

abbrev Sb (H H' : Hp) : Prop := ∀ b o, H b = some o → H' b = some o
theorem Sb.refl (H : Hp) : Sb H H := fun _ _ h => h
theorem Sb.tr {H H1 H2 : Hp} (a : Sb H H1) (b : Sb H1 H2) : Sb H H2 := fun c o h => b c o (a c o h)
theorem Sb.upd {H : Hp} {p : Addr} {o : HO} (h : H p = none) : Sb H (upd H p o) := fun b u e => by
  rw [upd_ne (ne_of_none e h)]; exact e
/-- a place that H does not know may change -/
theorem Sb.mut {H H' : Hp} {p : Addr} {o : HO} (e : Sb H H') (h : H p = none) : Sb H (L2.upd H' p o) := fun b u q => by
  rw [upd_ne (ne_of_none q h)]; exact e b u q
theorem Sb.no {H H' : Hp} (e : Sb H H') {p : Addr} (h : H' p = none) : H p = none := by
  cases q : H p with
  | none => rfl
  | some o => rw [e p o q] at h; cases h
theorem Sb.rd {H H' : Hp} {a : Addr} {u : HO} (e : Sb H H') (h : Rd H a u) : Rd H' a u := by
  rcases h with h | ⟨o, h⟩
  · exact Or.inl (e a _ h)
  · exact Or.inr ⟨o, e a _ h⟩
theorem Sb.l {K : PySem.W.Frag} {H H' : Hp} {a : Addr} {xs : List V} (e : Sb H H') (h : SqL K H a xs) : SqL K H' a xs := by
  rcases h with h | h
  · exact Or.inl (e.rd h)
  · exact Or.inr h
theorem Sb.t {K : PySem.W.Frag} {H H' : Hp} {a : Addr} {xs : List V} (e : Sb H H') (h : SqT K H a xs) : SqT K H' a xs := by
  rcases h with h | h
  · exact Or.inl (e.rd h)
  · exact Or.inr h

section
variable (K : PySem.W.Frag) (mg : Str → Option Value)
mutual
/-- the value v is the datum d in the world R -/
inductive Den (R : Hp) : V → D → Prop
  | non : Den R .non .non
  | bl (b : Bool) : Den R (.bl b) (.bl b)
  | int (i : Int) : Den R (.int i) (.int i)
  | str (x : Str) : Den R (.str x) (.str x)
  | lst {a : Addr} {xs : List V} {ds : List D} : R a = some (.lst xs) → DenL R xs ds → Den R (.ref a) (.lst ds)
  | scl {a : Addr} {xs : List V} {ds : List D} : SqL K R a xs → DenL R xs ds → Den R (.ref a) (.scl ds)
  | tup {a : Addr} {xs : List V} {ds : List D} : SqT K R a xs → DenL R xs ds → Den R (.ref a) (.tup ds)
  | dct {a : Addr} {xs : List (Key × V)} {ds : List (Key × D)} : R a = some (.dK xs) → DenK R xs ds → Den R (.ref a) (.dct ds)
  | obj {a CA dx : Addr} {C : Str} {xs : List (Str × V)} {ds : List (Str × D)} : mg C = some (.ref CA) → R a = some (.ins CA dx xs) → DenF R xs ds → Den R (.ref a) (.obj C ds)
inductive DenL (R : Hp) : List V → List D → Prop
  | nil : DenL R [] []
  | cons {v : V} {vs : List V} {d : D} {ds : List D} : Den R v d → DenL R vs ds → DenL R (v :: vs) (d :: ds)
inductive DenK (R : Hp) : List (Key × V) → List (Key × D) → Prop
  | nil : DenK R [] []
  | cons {k : Key} {v : V} {vs : List (Key × V)} {d : D} {ds : List (Key × D)} : Den R v d → DenK R vs ds → DenK R ((k, v) :: vs) ((k, d) :: ds)
inductive DenF (R : Hp) : List (Str × V) → List (Str × D) → Prop
  | nil : DenF R [] []
  | cons {k : Str} {v : V} {vs : List (Str × V)} {d : D} {ds : List (Str × D)} : Den R v d → DenF R vs ds → DenF R ((k, v) :: vs) ((k, d) :: ds)
end
end

section
variable {K : PySem.W.Frag} {mg : Str → Option Value} {R R' : Hp}
mutual
theorem Den.mono (e : Sb R R') : ∀ {v : V} {d : D}, Den K mg R v d → Den K mg R' v d
  | _, _, .non => .non
  | _, _, .bl b => .bl b
  | _, _, .int i => .int i
  | _, _, .str x => .str x
  | _, _, .lst h hs => .lst (e _ _ h) (DenL.mono e hs)
  | _, _, .scl h hs => .scl (Sb.l e h) (DenL.mono e hs)
  | _, _, .tup h hs => .tup (Sb.t e h) (DenL.mono e hs)
  | _, _, .dct h hs => .dct (e _ _ h) (DenK.mono e hs)
  | _, _, .obj c h hs => .obj c (e _ _ h) (DenF.mono e hs)
theorem DenL.mono (e : Sb R R') : ∀ {v : List V} {d : List D}, DenL K mg R v d → DenL K mg R' v d
  | _, _, .nil => .nil
  | _, _, .cons h hs => .cons (Den.mono e h) (DenL.mono e hs)
theorem DenK.mono (e : Sb R R') : ∀ {v : List (Key × V)} {d : List (Key × D)}, DenK K mg R v d → DenK K mg R' v d
  | _, _, .nil => .nil
  | _, _, .cons h hs => .cons (Den.mono e h) (DenK.mono e hs)
theorem DenF.mono (e : Sb R R') : ∀ {v : List (Str × V)} {d : List (Str × D)}, DenF K mg R v d → DenF K mg R' v d
  | _, _, .nil => .nil
  | _, _, .cons h hs => .cons (Den.mono e h) (DenF.mono e hs)
end
theorem DenL.len : ∀ {v : List V} {d : List D}, DenL K mg R v d → v.length = d.length
  | _, _, .nil => rfl
  | _, _, .cons _ hs => by rw [List.length_cons, List.length_cons, DenL.len hs]
theorem DenL.app : ∀ {v w : List V} {d e : List D}, DenL K mg R v d → DenL K mg R w e → DenL K mg R (v ++ w) (d ++ e)
  | _, _, _, _, .nil, h => h
  | _, _, _, _, .cons h hs, g => .cons h (DenL.app hs g)
theorem DenL.get : ∀ {v : List V} {d : List D} {i : Nat} {x : D}, DenL K mg R v d → d[i]? = some x → ∃ y, v[i]? = some y ∧ Den K mg R y x
  | _, _, _, _, .nil, e => by simp at e
  | _, _, 0, _, .cons h _, e => by simp at e; subst e; exact ⟨_, rfl, h⟩
  | _, _, i + 1, x, .cons _ hs, e => by
    obtain ⟨y, h1, h2⟩ := DenL.get (i := i) (x := x) hs (by simpa using e)
    exact ⟨y, by simpa using h1, h2⟩
theorem DenL.get' : ∀ {v : List V} {d : List D} {i : Nat} {y : V}, DenL K mg R v d → v[i]? = some y → ∃ x, d[i]? = some x ∧ Den K mg R y x
  | _, _, _, _, .nil, e => by simp at e
  | _, _, 0, _, .cons h _, e => by simp at e; subst e; exact ⟨_, rfl, h⟩
  | _, _, i + 1, x, .cons _ hs, e => by
    obtain ⟨y, h1, h2⟩ := DenL.get' (i := i) (y := x) hs (by simpa using e)
    exact ⟨y, by simpa using h1, h2⟩
theorem DenL.set {x : V} {y : D} (h : Den K mg R x y) : ∀ {v : List V} {d : List D} (i : Nat), DenL K mg R v d → DenL K mg R (v.set i x) (d.set i y)
  | _, _, _, .nil => .nil
  | _, _, 0, .cons _ hs => .cons h hs
  | _, _, i + 1, .cons g hs => .cons g (DenL.set h i hs)
theorem DenL.take : ∀ {v : List V} {d : List D} (n : Nat), DenL K mg R v d → DenL K mg R (v.take n) (d.take n)
  | _, _, 0, _ => .nil
  | _, _, _ + 1, .nil => .nil
  | _, _, n + 1, .cons h hs => .cons h (DenL.take n hs)
theorem DenL.drop : ∀ {v : List V} {d : List D} (n : Nat), DenL K mg R v d → DenL K mg R (v.drop n) (d.drop n)
  | _, _, 0, h => h
  | _, _, _ + 1, .nil => .nil
  | _, _, n + 1, .cons h hs => DenL.drop n hs
theorem DenL.rev : ∀ {v : List V} {d : List D}, DenL K mg R v d → DenL K mg R v.reverse d.reverse
  | _, _, .nil => .nil
  | _, _, .cons h hs => by
    rw [List.reverse_cons, List.reverse_cons]
    exact DenL.app (DenL.rev hs) (.cons h .nil)
theorem DenL.rep {x : V} {y : D} (h : Den K mg R x y) : ∀ (n : Nat), DenL K mg R (List.replicate n x) (List.replicate n y)
  | 0 => .nil
  | n + 1 => .cons h (DenL.rep h n)
theorem DenF.look : ∀ {v : List (Str × V)} {d : List (Str × D)} {k : Str} {x : D}, DenF K mg R v d → d.lookup k = some x → ∃ y, v.lookup k = some y ∧ Den K mg R y x
  | _, _, _, _, .nil, e => by simp at e
  | _, _, k, x, .cons (k := k') h hs, e => by
    by_cases hk : k = k'
    · subst hk
      simp [List.lookup] at e ⊢
      subst e
      exact h
    · have hb : (k == k') = false := by simpa using hk
      simp only [List.lookup, hb] at e ⊢
      exact DenF.look hs e
theorem DenF.len : ∀ {v : List (Str × V)} {d : List (Str × D)}, DenF K mg R v d → v.length = d.length
  | _, _, .nil => rfl
  | _, _, .cons _ hs => by rw [List.length_cons, List.length_cons, DenF.len hs]
end

/-- the world R of the heap H grows to R' of H' -/
structure Wd (R H R' H' : Hp) : Prop where
  hh : Sb H H'
  rr : Sb R R'
  rh : Sb R' H'
  nw : ∀ b, H b = none ∨ R' b = R b
theorem Wd.refl {R H : Hp} (h : Sb R H) : Wd R H R H := ⟨Sb.refl _, Sb.refl _, h, fun _ => .inr rfl⟩
theorem Wd.tr {R H R1 H1 R2 H2 : Hp} (a : Wd R H R1 H1) (b : Wd R1 H1 R2 H2) : Wd R H R2 H2 :=
  ⟨a.hh.tr b.hh, a.rr.tr b.rr, b.rh, fun c => by
    rcases b.nw c with h | h
    · exact .inl (a.hh.no h)
    · rcases a.nw c with g | g
      · exact .inl g
      · exact .inr (h.trans g)⟩
/-- a new object that belongs to the world -/
theorem Wd.new {R H : Hp} (h : Sb R H) {p : Addr} {o : HO} (n : H p = none) : Wd R H (upd R p o) (upd H p o) :=
  ⟨Sb.upd n, Sb.upd (h.no n), fun b u e => by
    by_cases hb : b = p
    · subst hb; rw [upd_same] at e ⊢; exact e
    · rw [upd_ne hb] at e ⊢; exact h b u e, fun b => by
    by_cases hb : b = p
    · subst hb; exact .inl n
    · exact .inr (upd_ne hb)⟩
/-- a new object that stays outside -/
theorem Wd.out {R H : Hp} (h : Sb R H) {p : Addr} {o : HO} (n : H p = none) : Wd R H R (upd H p o) :=
  ⟨Sb.upd n, Sb.refl _, h.tr (Sb.upd n), fun b => .inr rfl⟩
/-- an object of H' that H does not know is taken into the world -/
theorem Wd.take {R H R' H' : Hp} (h : Sb R H) (w : Wd R H R' H') {p : Addr} {o : HO} (n : H p = none) (e : H' p = some o) : Wd R H (upd R' p o) H' :=
  ⟨w.hh, fun b u q => by
    rw [upd_ne (ne_of_none q (h.no n))]; exact w.rr b u q, fun b u q => by
    by_cases hb : b = p
    · subst hb; rw [upd_same] at q; cases q; exact e
    · rw [upd_ne hb] at q; exact w.rh b u q, fun b => by
    by_cases hb : b = p
    · subst hb; exact .inl n
    · rcases w.nw b with g | g
      · exact .inl g
      · exact .inr (by rw [upd_ne hb]; exact g)⟩

/-! ### slots -/
/-- what a slot holds: nothing told, a datum that stays, a list of the def's own that may change, a dict so -/
inductive SV where
  | un | fz (d : D) | ow (ds : List D) | owK (ks : List (Key × D))
  /-- an exception that is handled: its place, its dict's place, its class, its attributes -/
  | exn (a : Addr) (d : Option Addr) (CA : Addr) (C : Str) (fs : List (Str × D))
abbrev PEnv := List SV
abbrev St := L2.St
def Ow (ρ : PEnv) (i : Nat) : Prop := (∃ ds, ρ[i]? = some (.ow ds)) ∨ ∃ ks, ρ[i]? = some (.owK ks)

section
variable (K : PySem.W.Frag) (mg : Str → Option Value)
structure SlP (R H : Hp) (σ : St) (ρ : PEnv) : Prop where
  len : σ.length = ρ.length
  fz : ∀ (i : Nat) d, ρ[i]? = some (.fz d) → ∃ v, σ[i]? = some (some v) ∧ Den K mg R v d
  ow : ∀ (i : Nat) ds, ρ[i]? = some (.ow ds) → ∃ p xs, σ[i]? = some (some (.ref p)) ∧ H p = some (.lst xs) ∧ R p = none ∧ DenL K mg R xs ds
  owK : ∀ (i : Nat) ks, ρ[i]? = some (.owK ks) → ∃ p xs, σ[i]? = some (some (.ref p)) ∧ H p = some (.dK xs) ∧ R p = none ∧ DenK K mg R xs ks
  dj : ∀ (i j : Nat) p, i ≠ j → Ow ρ i → Ow ρ j → σ[i]? = some (some (.ref p)) → σ[j]? = some (some (.ref p)) → False
  en : ∀ (i : Nat) a d CA C fs, ρ[i]? = some (.exn a d CA C fs) → σ[i]? = some (some (.ref a)) ∧ mg C = some (.ref CA) ∧ ∃ dd xs, d = some dd ∧ R dd = some (.xd xs) ∧ DenF K mg R xs fs
/-- .. since the entry at H0, R0 -/
structure RelS (H0 R0 Rl R H : Hp) (σ : St) (ρ : PEnv) : Prop where
  rh : Sb R H
  sl : SlP K mg R H σ ρ
  h0 : Sb H0 H
  r0 : ∀ b, H0 b = none ∨ R b = R0 b
  rl : Sb Rl R
  nw : ∀ (i : Nat) p, Ow ρ i → σ[i]? = some (some (.ref p)) → H0 p = none
end

section
variable {K : PySem.W.Frag} {mg : Str → Option Value} {R H R' H' H0 R0 Rl : Hp} {σ : St} {ρ : PEnv}
theorem SlP.mono (h : Sb R H) (w : Wd R H R' H') (s : SlP K mg R H σ ρ) : SlP K mg R' H' σ ρ where
  len := s.len
  fz := fun i d e => by
    obtain ⟨v, h1, h2⟩ := s.fz i d e
    exact ⟨v, h1, h2.mono w.rr⟩
  ow := fun i ds e => by
    obtain ⟨p, xs, h1, h2, h3, h4⟩ := s.ow i ds e
    refine ⟨p, xs, h1, w.hh _ _ h2, ?_, h4.mono w.rr⟩
    rcases w.nw p with g | g
    · rw [h2] at g; cases g
    · rw [g]; exact h3
  owK := fun i ds e => by
    obtain ⟨p, xs, h1, h2, h3, h4⟩ := s.owK i ds e
    refine ⟨p, xs, h1, w.hh _ _ h2, ?_, h4.mono w.rr⟩
    rcases w.nw p with g | g
    · rw [h2] at g; cases g
    · rw [g]; exact h3
  dj := s.dj
  en := fun i a d CA C fs e => by
    obtain ⟨h1, hm, dd, xs, h2, h3, h4⟩ := s.en i a d CA C fs e
    exact ⟨h1, hm, dd, xs, h2, w.rr _ _ h3, h4.mono w.rr⟩
theorem RelS.mono (w : Wd R H R' H') (s : RelS K mg H0 R0 Rl R H σ ρ) : RelS K mg H0 R0 Rl R' H' σ ρ where
  rh := w.rh
  sl := s.sl.mono s.rh w
  h0 := s.h0.tr w.hh
  r0 := fun b => by
    rcases w.nw b with g | g
    · exact .inl (s.h0.no g)
    · rcases s.r0 b with k | k
      · exact .inl k
      · exact .inr (g.trans k)
  rl := s.rl.tr w.rr
  nw := s.nw
theorem Ow.set_fz {i j : Nat} {d : D} (h : Ow (ρ.set i (.fz d)) j) : j ≠ i ∧ Ow ρ j := by
  have : j ≠ i := by
    rintro rfl
    rcases h with ⟨ds, h⟩ | ⟨ds, h⟩ <;> (rw [List.getElem?_set] at h; split at h <;> simp_all)
  refine ⟨this, ?_⟩
  rcases h with ⟨ds, h⟩ | ⟨ds, h⟩
  · exact .inl ⟨ds, by rw [List.getElem?_set_ne (Ne.symm this)] at h; exact h⟩
  · exact .inr ⟨ds, by rw [List.getElem?_set_ne (Ne.symm this)] at h; exact h⟩
theorem Ow.set_un {i j : Nat} (h : Ow (ρ.set i .un) j) : j ≠ i ∧ Ow ρ j := by
  have : j ≠ i := by
    rintro rfl
    rcases h with ⟨ds, h⟩ | ⟨ds, h⟩ <;> (rw [List.getElem?_set] at h; split at h <;> simp_all)
  refine ⟨this, ?_⟩
  rcases h with ⟨ds, h⟩ | ⟨ds, h⟩
  · exact .inl ⟨ds, by rw [List.getElem?_set_ne (Ne.symm this)] at h; exact h⟩
  · exact .inr ⟨ds, by rw [List.getElem?_set_ne (Ne.symm this)] at h; exact h⟩
/-- a slot gets a datum -/
theorem RelS.set {i : Nat} {v : V} {d : D} (s : RelS K mg H0 R0 Rl R H σ ρ) (hd : Den K mg R v d) : RelS K mg H0 R0 Rl R H (σ.set i (some v)) (ρ.set i (.fz d)) where
  rh := s.rh
  h0 := s.h0
  r0 := s.r0
  rl := s.rl
  nw := fun j p h e => by
    obtain ⟨hj, h⟩ := h.set_fz
    rw [List.getElem?_set_ne (Ne.symm hj)] at e
    exact s.nw j p h e
  sl := {
    len := by simp [s.sl.len]
    fz := fun j d' e => by
      by_cases hj : j = i
      · subst hj
        have hl : j < ρ.length := by
          rw [List.getElem?_set] at e
          by_cases z : j < ρ.length
          · exact z
          · simp [z] at e
        rw [List.getElem?_set_self hl] at e
        cases e
        exact ⟨v, List.getElem?_set_self (by rw [s.sl.len]; exact hl), hd⟩
      · rw [List.getElem?_set_ne (Ne.symm hj)] at e ⊢
        exact s.sl.fz j d' e
    ow := fun j ds e => by
      have hj := (Ow.set_fz (ρ := ρ) (i := i) (d := d) (.inl ⟨ds, e⟩)).1
      rw [List.getElem?_set_ne (Ne.symm hj)] at e ⊢
      exact s.sl.ow j ds e
    owK := fun j ds e => by
      have hj := (Ow.set_fz (ρ := ρ) (i := i) (d := d) (.inr ⟨ds, e⟩)).1
      rw [List.getElem?_set_ne (Ne.symm hj)] at e ⊢
      exact s.sl.owK j ds e
    dj := fun j k p hn h1 h2 e1 e2 => by
      obtain ⟨n1, h1⟩ := h1.set_fz
      obtain ⟨n2, h2⟩ := h2.set_fz
      rw [List.getElem?_set_ne (Ne.symm n1)] at e1
      rw [List.getElem?_set_ne (Ne.symm n2)] at e2
      exact s.sl.dj j k p hn h1 h2 e1 e2
    en := fun j a d' CA C fs e => by
      have hj : j ≠ i := by
        rintro rfl
        rw [List.getElem?_set] at e; split at e <;> simp_all
      rw [List.getElem?_set_ne (Ne.symm hj)] at e ⊢
      exact s.sl.en j a d' CA C fs e }
/-- a slot is forgotten -/
theorem SlP.unset {i : Nat} {v : Option V} (s : SlP K mg R H σ ρ) : SlP K mg R H (σ.set i v) (ρ.set i .un) where
    len := by simp [s.len]
    fz := fun j d' e => by
      have hj : j ≠ i := by
        rintro rfl
        rw [List.getElem?_set] at e; split at e <;> simp_all
      rw [List.getElem?_set_ne (Ne.symm hj)] at e ⊢
      exact s.fz j d' e
    ow := fun j ds e => by
      have hj := (Ow.set_un (ρ := ρ) (i := i) (.inl ⟨ds, e⟩)).1
      rw [List.getElem?_set_ne (Ne.symm hj)] at e ⊢
      exact s.ow j ds e
    owK := fun j ds e => by
      have hj := (Ow.set_un (ρ := ρ) (i := i) (.inr ⟨ds, e⟩)).1
      rw [List.getElem?_set_ne (Ne.symm hj)] at e ⊢
      exact s.owK j ds e
    dj := fun j k p hn h1 h2 e1 e2 => by
      obtain ⟨n1, h1⟩ := h1.set_un
      obtain ⟨n2, h2⟩ := h2.set_un
      rw [List.getElem?_set_ne (Ne.symm n1)] at e1
      rw [List.getElem?_set_ne (Ne.symm n2)] at e2
      exact s.dj j k p hn h1 h2 e1 e2
    en := fun j a d' CA C fs e => by
      have hj : j ≠ i := by
        rintro rfl
        rw [List.getElem?_set] at e; split at e <;> simp_all
      rw [List.getElem?_set_ne (Ne.symm hj)] at e ⊢
      exact s.en j a d' CA C fs e
theorem RelS.unset {i : Nat} {v : Option V} (s : RelS K mg H0 R0 Rl R H σ ρ) : RelS K mg H0 R0 Rl R H (σ.set i v) (ρ.set i .un) where
  rh := s.rh
  h0 := s.h0
  r0 := s.r0
  rl := s.rl
  nw := fun j p h e => by
    obtain ⟨hj, h⟩ := h.set_un
    rw [List.getElem?_set_ne (Ne.symm hj)] at e
    exact s.nw j p h e
  sl := s.sl.unset
theorem Ow.set_ow {i j : Nat} {x : SV} (h : Ow (ρ.set i x) j) : j = i ∨ Ow ρ j := by
  by_cases hj : j = i
  · exact .inl hj
  · refine .inr ?_
    rcases h with ⟨ds, h⟩ | ⟨ds, h⟩
    · exact .inl ⟨ds, by rw [List.getElem?_set_ne (Ne.symm hj)] at h; exact h⟩
    · exact .inr ⟨ds, by rw [List.getElem?_set_ne (Ne.symm hj)] at h; exact h⟩
/-- the owned places of other slots are not p -/
theorem SlP.apart {p : Addr} (s : SlP K mg R H σ ρ) (n : H p = none) {j : Nat} (h : Ow ρ j) : σ[j]? ≠ some (some (.ref p)) := fun e => by
  rcases h with ⟨ds, h⟩ | ⟨ds, h⟩
  · obtain ⟨q, xs, h1, h2, _⟩ := s.ow j ds h
    rw [e] at h1; cases h1; rw [n] at h2; cases h2
  · obtain ⟨q, xs, h1, h2, _⟩ := s.owK j ds h
    rw [e] at h1; cases h1; rw [n] at h2; cases h2
/-- a slot gets a new list of the def's own -/
theorem RelS.setO {i : Nat} {p : Addr} {xs : List V} {ds : List D} (s : RelS K mg H0 R0 Rl R H σ ρ) (w : Wd R H R' H') (n : H p = none) (n' : R' p = none) (e : H' p = some (.lst xs)) (hd : DenL K mg R' xs ds) :
    RelS K mg H0 R0 Rl R' H' (σ.set i (some (.ref p))) (ρ.set i (.ow ds)) := by
  have s' := s.mono w
  refine ⟨s'.rh, ?_, s'.h0, s'.r0, s'.rl, fun j q h e1 => ?_⟩
  · refine ⟨by simp [s.sl.len], fun j d' e1 => ?_, fun j ds' e1 => ?_, fun j ks e1 => ?_, fun j k q hn h1 h2 e1 e2 => ?_, fun j a d' CA C fs e1 => ?_⟩
    · have hj : j ≠ i := by
        rintro rfl
        rw [List.getElem?_set] at e1; split at e1 <;> simp_all
      rw [List.getElem?_set_ne (Ne.symm hj)] at e1 ⊢
      exact s'.sl.fz j d' e1
    · by_cases hj : j = i
      · subst hj
        have hl : j < ρ.length := by
          rw [List.getElem?_set] at e1
          by_cases z : j < ρ.length
          · exact z
          · simp [z] at e1
        rw [List.getElem?_set_self hl] at e1
        cases e1
        exact ⟨p, xs, List.getElem?_set_self (by rw [s.sl.len]; exact hl), e, n', hd⟩
      · rw [List.getElem?_set_ne (Ne.symm hj)] at e1 ⊢
        exact s'.sl.ow j ds' e1
    · have hj : j ≠ i := by
        rintro rfl
        rw [List.getElem?_set] at e1; split at e1 <;> simp_all
      rw [List.getElem?_set_ne (Ne.symm hj)] at e1 ⊢
      exact s'.sl.owK j ks e1
    · by_cases hj : j = i
      · subst hj
        have hk : k ≠ j := Ne.symm hn
        rcases h2.set_ow with z | h2
        · exact hk z
        · rw [List.getElem?_set_ne hn] at e2
          rw [List.getElem?_set] at e1
          split at e1
          · split at e1
            · have := Option.some.inj (Option.some.inj e1); cases this
              exact s.sl.apart n h2 e2
            · cases e1
          · rename_i z; exact z rfl
      · rcases h1.set_ow with z | g1
        · exact hj z
        · rw [List.getElem?_set_ne (Ne.symm hj)] at e1
          by_cases hk : k = i
          · rw [hk, List.getElem?_set] at e2
            split at e2
            · split at e2
              · have := Option.some.inj (Option.some.inj e2); cases this
                exact s.sl.apart n g1 e1
              · cases e2
            · rename_i z; exact z rfl
          · rcases h2.set_ow with z | g2
            · exact hk z
            · rw [List.getElem?_set_ne (Ne.symm hk)] at e2
              exact s.sl.dj j k q hn g1 g2 e1 e2
    · have hj : j ≠ i := by
        rintro rfl
        rw [List.getElem?_set] at e1; split at e1 <;> simp_all
      rw [List.getElem?_set_ne (Ne.symm hj)] at e1 ⊢
      exact s'.sl.en j a d' CA C fs e1
  · by_cases hj : j = i
    · subst hj
      rw [List.getElem?_set] at e1
      split at e1
      · split at e1
        · have := Option.some.inj (Option.some.inj e1); cases this
          exact s.h0.no n
        · cases e1
      · rename_i z; exact absurd rfl z
    · rcases h.set_ow with z | h
      · exact absurd z hj
      · rw [List.getElem?_set_ne (Ne.symm hj)] at e1
        exact s.nw j q h e1
/-- an owned list changes -/
theorem RelS.chg {i : Nat} {p : Addr} {ds ds0 : List D} {ys : List V} (s : RelS K mg H0 R0 Rl R H σ ρ) (h : ρ[i]? = some (.ow ds0)) (e : σ[i]? = some (some (.ref p))) (hd : DenL K mg R ys ds) :
    RelS K mg H0 R0 Rl R (upd H p (.lst ys)) σ (ρ.set i (.ow ds)) := by
  obtain ⟨q, xs, h1, h2, h3, h4⟩ := s.sl.ow i ds0 h
  rw [e] at h1; cases h1
  have hl : i < ρ.length := (List.getElem?_eq_some_iff.mp h).1
  have own : ∀ (j : Nat), Ow (ρ.set i (.ow ds)) j → Ow ρ j := fun j hj => by
    rcases hj.set_ow with z | z
    · subst z; exact .inl ⟨_, h⟩
    · exact z
  refine ⟨fun b o z => ?_, ?_, fun b o z => ?_, s.r0, s.rl, fun j q hj z => s.nw j q (own j hj) z⟩
  · rw [upd_ne (ne_of_none z h3)]; exact s.rh b o z
  · refine ⟨by simp [s.sl.len], fun j d' e1 => ?_, fun j ds' e1 => ?_, fun j ks e1 => ?_, fun j k q hn z1 z2 e1 e2 => s.sl.dj j k q hn (own j z1) (own k z2) e1 e2, fun j a d' CA C fs e1 => ?_⟩
    · have hj : j ≠ i := by
        rintro rfl
        rw [List.getElem?_set] at e1; split at e1 <;> simp_all
      rw [List.getElem?_set_ne (Ne.symm hj)] at e1
      exact s.sl.fz j d' e1
    · by_cases hj : j = i
      · subst hj
        rw [List.getElem?_set_self hl] at e1
        cases e1
        exact ⟨p, ys, e, upd_same, h3, hd⟩
      · rw [List.getElem?_set_ne (Ne.symm hj)] at e1
        obtain ⟨q, xs', g1, g2, g3, g4⟩ := s.sl.ow j ds' e1
        refine ⟨q, xs', g1, ?_, g3, g4⟩
        have : q ≠ p := by
          rintro rfl
          exact s.sl.dj j i q hj (.inl ⟨_, e1⟩) (.inl ⟨_, h⟩) g1 e
        rw [upd_ne this]; exact g2
    · have hj : j ≠ i := by
        rintro rfl
        rw [List.getElem?_set] at e1; split at e1 <;> simp_all
      rw [List.getElem?_set_ne (Ne.symm hj)] at e1
      obtain ⟨q, xs', g1, g2, g3, g4⟩ := s.sl.owK j ks e1
      refine ⟨q, xs', g1, ?_, g3, g4⟩
      have : q ≠ p := by
        rintro rfl
        exact s.sl.dj j i q hj (.inr ⟨_, e1⟩) (.inl ⟨_, h⟩) g1 e
      rw [upd_ne this]; exact g2
    · have hj : j ≠ i := by
        rintro rfl
        rw [List.getElem?_set] at e1; split at e1 <;> simp_all
      rw [List.getElem?_set_ne (Ne.symm hj)] at e1
      exact s.sl.en j a d' CA C fs e1
  · have : b ≠ p := by
      rintro rfl
      rw [s.nw i b (.inl ⟨_, h⟩) e] at z; cases z
    rw [upd_ne this]; exact s.h0 b o z
/-- an owned list is owned no more: it stays from now on -/
def frzS (ρ : PEnv) (i : Nat) : PEnv := match ρ[i]? with
  | some (.ow ds) => ρ.set i (.fz (.lst ds))
  | some (.owK ks) => ρ.set i (.fz (.dct ks))
  | _ => ρ
theorem RelS.take {p : Addr} {o : HO} (s : RelS K mg H0 R0 Rl R H σ ρ) {i : Nat} (hi : Ow ρ i) (e : σ[i]? = some (some (.ref p))) (n : R p = none) (h : H p = some o) :
    RelS K mg H0 R0 Rl (upd R p o) H (σ.set i none) (ρ.set i .un) := by
  have hz : H0 p = none := s.nw i p hi e
  refine ⟨fun b u q => ?_, ?_, s.h0, fun b => ?_, s.rl.tr (Sb.upd n), fun j q hj z => ?_⟩
  · by_cases hb : b = p
    · subst hb; rw [upd_same] at q; cases q; exact h
    · rw [upd_ne hb] at q; exact s.rh b u q
  · have t : SlP K mg R H (σ.set i none) (ρ.set i .un) := s.sl.unset
    have rr : Sb R (upd R p o) := Sb.upd n
    have ne : ∀ (j : Nat), Ow (ρ.set i .un) j → ∀ q, σ[j]? = some (some (.ref q)) → q ≠ p := fun j hj q z => by
      obtain ⟨nj, hj⟩ := hj.set_un
      rintro rfl
      exact s.sl.dj j i q nj hj hi z e
    refine ⟨t.len, fun j d z => ?_, fun j ds z => ?_, fun j ds z => ?_, t.dj, fun j a d CA C fs z => ?_⟩
    · obtain ⟨v, h1, h2⟩ := t.fz j d z
      exact ⟨v, h1, h2.mono rr⟩
    · obtain ⟨q, xs, h1, h2, h3, h4⟩ := t.ow j ds z
      have nj := (Ow.set_un (.inl ⟨_, z⟩)).1
      have h1' := h1
      rw [List.getElem?_set_ne (Ne.symm nj)] at h1'
      exact ⟨q, xs, h1, h2, by rw [upd_ne (ne j (.inl ⟨_, z⟩) q h1')]; exact h3, h4.mono rr⟩
    · obtain ⟨q, xs, h1, h2, h3, h4⟩ := t.owK j ds z
      have nj := (Ow.set_un (.inr ⟨_, z⟩)).1
      have h1' := h1
      rw [List.getElem?_set_ne (Ne.symm nj)] at h1'
      exact ⟨q, xs, h1, h2, by rw [upd_ne (ne j (.inr ⟨_, z⟩) q h1')]; exact h3, h4.mono rr⟩
    · obtain ⟨h1, hm, dd, xs, h2, h3, h4⟩ := t.en j a d CA C fs z
      exact ⟨h1, hm, dd, xs, h2, rr _ _ h3, h4.mono rr⟩
  · by_cases hb : b = p
    · subst hb; exact .inl hz
    · rw [upd_ne hb]; exact s.r0 b
  · obtain ⟨nj, hj⟩ := hj.set_un
    rw [List.getElem?_set_ne (Ne.symm nj)] at z
    exact s.nw j q hj z
theorem set_again {α : Type} {l : List α} {i : Nat} {x : α} (h : l[i]? = some x) : l.set i x = l := by
  apply List.ext_getElem?
  intro j
  rw [List.getElem?_set]
  split
  · rename_i e; subst e
    rw [h]; split
    · rfl
    · rename_i z; exact absurd (List.getElem?_eq_some_iff.mp h).1 z
  · rfl
theorem RelS.frz (s : RelS K mg H0 R0 Rl R H σ ρ) (i : Nat) : ∃ R', RelS K mg H0 R0 Rl R' H σ (frzS ρ i) := by
  unfold frzS
  split
  · rename_i ds h
    obtain ⟨p, xs, h1, h2, h3, h4⟩ := s.sl.ow i ds h
    have t := s.take (.inl ⟨_, h⟩) h1 h3 h2
    have t2 := t.set (i := i) (v := .ref p) (d := .lst ds) (.lst upd_same (h4.mono (Sb.upd h3)))
    rw [List.set_set, List.set_set, set_again h1] at t2
    exact ⟨_, t2⟩
  · rename_i ks h
    obtain ⟨p, xs, h1, h2, h3, h4⟩ := s.sl.owK i ks h
    have t := s.take (.inr ⟨_, h⟩) h1 h3 h2
    have t2 := t.set (i := i) (v := .ref p) (d := .dct ks) (.dct upd_same (h4.mono (Sb.upd h3)))
    rw [List.set_set, List.set_set, set_again h1] at t2
    exact ⟨_, t2⟩
  · exact ⟨R, s⟩
end
end PL

/-! the pure layer, part B: expressions -/
namespace PL
open PySem PySem.Spec PyProof.Rows L2

def Rs.bind {α β : Type} (r : Rs α) (g : α → Rs β) : Rs β := match r with
  | .ok a => g a
  | .ex C fs => .ex C fs
  | .bad => .bad
def ofO {α : Type} : Option α → Rs α
  | some a => .ok a
  | none => .bad
@[simp] theorem Rs.bind_ok {α β : Type} (a : α) (g : α → Rs β) : (Rs.ok a).bind g = g a := rfl
@[simp] theorem Rs.bind_ex {α β : Type} (C : Str) (fs : List (Str × D)) (g : α → Rs β) : (Rs.ex C fs : Rs α).bind g = .ex C fs := rfl
@[simp] theorem Rs.bind_bad {α β : Type} (g : α → Rs β) : (Rs.bad : Rs α).bind g = .bad := rfl
@[simp] theorem ofO_some {α : Type} (a : α) : ofO (some a) = .ok a := rfl
@[simp] theorem ofO_none {α : Type} : ofO (none : Option α) = .bad := rfl

section
variable (K : PySem.W.Frag) (mg : Str → Option Value)
def After (W : WX) (σ : St) (R H : Hp) {α : Type} (r : Rs α) (k : α → Hp → Hp → Prop) : Prop := match r with
  | .ok a => ∀ R' H', Wd R H R' H' → k a R' H'
  | .ex C fs => ∀ R' H' CA dd xs, Wd R H R' H' → mg C = some (.ref CA) → H dd = none → R' dd = some (.xd xs) → DenF K mg R' xs fs → W (.ref CA) (some dd) σ H'
  | .bad => False
end
section
variable {K : PySem.W.Frag} {mg : Str → Option Value} {W : WX} {σ : St} {R H R' H' : Hp} {α β : Type}
theorem After.mono {r : Rs α} {k : α → Hp → Hp → Prop} (w : Wd R H R' H') (h : After K mg W σ R H r k) : After K mg W σ R' H' r k := by
  cases r with
  | ok a => exact fun R2 H2 w2 => h R2 H2 (w.tr w2)
  | ex C fs => exact fun R2 H2 CA dd xs w2 e1 e2 e3 e4 => h R2 H2 CA dd xs (w.tr w2) e1 (w.hh.no e2) e3 e4
  | bad => exact h
theorem After.imp {r : Rs α} {k k' : α → Hp → Hp → Prop} (h : After K mg W σ R H r k) (i : ∀ a R' H', Wd R H R' H' → k a R' H' → k' a R' H') : After K mg W σ R H r k' := by
  cases r with
  | ok a => exact fun R2 H2 w2 => i a R2 H2 w2 (h R2 H2 w2)
  | ex C fs => exact h
  | bad => exact h
theorem After.bind {r : Rs α} {g : α → Rs β} {k : β → Hp → Hp → Prop} (h : After K mg W σ R H (r.bind g) k) : After K mg W σ R H r (fun a R' H' => After K mg W σ R' H' (g a) k) := by
  cases r with
  | ok a => exact fun R2 H2 w2 => After.mono w2 (show After K mg W σ R H (g a) k from h)
  | ex C fs => exact h
  | bad => exact h
theorem After.ok {a : α} {k : α → Hp → Hp → Prop} (rh : Sb R H) (h : After K mg W σ R H (.ok a) k) : k a R H := h R H (Wd.refl rh)
end

/-- a value that may be an owned list or dict of a slot -/
def DenX (K : PySem.W.Frag) (mg : Str → Option Value) (R H : Hp) (σ : St) (ρ : PEnv) (v : V) (d : D) : Prop :=
  Den K mg R v d ∨ ∃ (i : Nat) (p : Addr), v = .ref p ∧ σ[i]? = some (some (.ref p)) ∧ R p = none ∧
    ((∃ xs ds, d = .lst ds ∧ ρ[i]? = some (.ow ds) ∧ H p = some (.lst xs) ∧ DenL K mg R xs ds) ∨ ∃ xs ks, d = .dct ks ∧ ρ[i]? = some (.owK ks) ∧ H p = some (.dK xs) ∧ DenK K mg R xs ks)

/-- an expression whose datum stays -/
structure EE (X : Cx) (W : WX) (e : Expr) (t : TE) (f : PEnv → Rs D) : Prop where
  pe : L2N.Takes X W → PE X e t
  go : ∀ (R H : Hp) (σ : St) (ρ : PEnv) (Q : VK), Sb R H → SlP X.K X.mg R H σ ρ → After X.K X.mg W σ R H (f ρ) (fun d R' H' => ∀ v, Den X.K X.mg R' v d → Q v H') → t σ H Q
/-- .. that may be an owned list for now -/
structure EX (X : Cx) (W : WX) (e : Expr) (t : TE) (f : PEnv → Rs D) : Prop where
  pe : L2N.Takes X W → PE X e t
  go : ∀ (R H : Hp) (σ : St) (ρ : PEnv) (Q : VK), Sb R H → SlP X.K X.mg R H σ ρ → After X.K X.mg W σ R H (f ρ) (fun d R' H' => ∀ v, DenX X.K X.mg R' H' σ ρ v d → Q v H') → t σ H Q
/-- .. that is a new list -/
structure EN (X : Cx) (W : WX) (e : Expr) (t : TE) (f : PEnv → Rs (List D)) : Prop where
  pe : L2N.Takes X W → PE X e t
  go : ∀ (R H : Hp) (σ : St) (ρ : PEnv) (Q : VK), Sb R H → SlP X.K X.mg R H σ ρ → After X.K X.mg W σ R H (f ρ) (fun ds R' H' => ∀ p xs, H p = none → R' p = none → H' p = some (.lst xs) → DenL X.K X.mg R' xs ds → Q (.ref p) H') → t σ H Q
/-- a test -/
structure ET (X : Cx) (W : WX) (e : Expr) (t : TT) (f : PEnv → Rs Bool) : Prop where
  pt : L2N.Takes X W → PT X e t
  go : ∀ (R H : Hp) (σ : St) (ρ : PEnv) (Q : Bool → Hp → Prop), Sb R H → SlP X.K X.mg R H σ ρ → After X.K X.mg W σ R H (f ρ) (fun b _ H' => Q b H') → t σ H Q
/-- arguments -/
structure EA (X : Cx) (W : WX) (es : List Expr) (t : TA) (f : PEnv → Rs (List D)) : Prop where
  pa : L2N.Takes X W → PA X es t
  go : ∀ (R H : Hp) (σ : St) (ρ : PEnv) (Q : List V → Hp → Prop), Sb R H → SlP X.K X.mg R H σ ρ → After X.K X.mg W σ R H (f ρ) (fun ds R' H' => ∀ vs, DenL X.K X.mg R' vs ds → Q vs H') → t σ H Q

section
variable {X : Cx} {W : WX} {e a b : Expr} {t ta tb : TE} {f fa fb : PEnv → Rs D} {pos : Pos}
theorem EE.x (h : EE X W e t f) : EX X W e t f := ⟨fun tk => (h.pe tk), fun R H σ ρ Q rh s k => h.go R H σ ρ Q rh s (k.imp fun d R' H' _ z v dn => z v (.inl dn))⟩
def nl (f : PEnv → Rs (List D)) : PEnv → Rs D := fun ρ => (f ρ).bind fun ds => .ok (.lst ds)
theorem EN.ee {f : PEnv → Rs (List D)} (h : EN X W e t f) : EE X W e t (nl f) := ⟨fun tk => (h.pe tk), fun R H σ ρ Q rh s k => h.go R H σ ρ Q rh s (by
  have k := After.bind (r := f ρ) (g := fun ds => Rs.ok (D.lst ds)) k
  cases hf : f ρ with
  | ok ds =>
    rw [hf] at k
    intro R' H' w p xs n n' e' dl
    have w2 := w.take rh (o := .lst xs) n e'
    have k2 := k _ _ w2 _ _ (Wd.refl w2.rh)
    exact k2 (.ref p) (.lst upd_same (dl.mono (Sb.upd n')))
  | ex C fs => rw [hf] at k; exact k
  | bad => rw [hf] at k; exact k)⟩

/-! ### names, constants -/
def eV (i : Nat) : PEnv → Rs D := fun ρ => match ρ[i]? with | some (.fz d) => .ok d | _ => .bad
def xV (i : Nat) : PEnv → Rs D := fun ρ => match ρ[i]? with | some (.fz d) => .ok d | some (.ow ds) => .ok (.lst ds) | some (.owK ks) => .ok (.dct ks) | _ => .bad
theorem ee_var (i : Nat) {x : Str} {pos : Pos} (h : PE X (.Name x pos) (tVar i)) : EE X W (.Name x pos) (tVar i) (eV i) := ⟨fun _ => h, fun R H σ ρ Q rh s k => by
  unfold eV at k
  split at k
  · rename_i d hd
    obtain ⟨v, h1, h2⟩ := s.fz i d hd
    exact ⟨v, h1, (After.ok rh k) v h2⟩
  · exact k.elim⟩
theorem ex_var (i : Nat) {x : Str} {pos : Pos} (h : PE X (.Name x pos) (tVar i)) : EX X W (.Name x pos) (tVar i) (xV i) := ⟨fun _ => h, fun R H σ ρ Q rh s k => by
  unfold xV at k
  split at k
  · rename_i d hd
    obtain ⟨v, h1, h2⟩ := s.fz i d hd
    exact ⟨v, h1, (After.ok rh k) v (.inl h2)⟩
  · rename_i ds hd
    obtain ⟨p, xs, h1, h2, h3, h4⟩ := s.ow i ds hd
    exact ⟨.ref p, h1, (After.ok rh k) _ (.inr ⟨i, p, rfl, h1, h3, .inl ⟨xs, ds, rfl, hd, h2, h4⟩⟩)⟩
  · rename_i ds hd
    obtain ⟨p, xs, h1, h2, h3, h4⟩ := s.owK i ds hd
    exact ⟨.ref p, h1, (After.ok rh k) _ (.inr ⟨i, p, rfl, h1, h3, .inr ⟨xs, ds, rfl, hd, h2, h4⟩⟩)⟩
  · exact k.elim⟩
def eC (d : D) : PEnv → Rs D := fun _ => .ok d
theorem ee_c {v : V} {d : D} (h : PE X e (tC v)) (hd : ∀ R, Den X.K X.mg R v d) : EE X W e (tC v) (eC d) := ⟨fun _ => h, fun R H σ ρ Q rh s k => (After.ok rh k) v (hd R)⟩
theorem ee_int {i j pos} : EE X W (.Constant (.int i) j pos) (tC (.int i)) (eC (.int i)) := ee_c pe_int fun _ => .int i
theorem ee_bl {b j pos} : EE X W (.Constant (.bool b) j pos) (tC (.bl b)) (eC (.bl b)) := ee_c pe_bl fun _ => .bl b
theorem ee_non {j pos} : EE X W (.Constant .none j pos) (tC .non) (eC .non) := ee_c pe_non fun _ => .non
theorem ee_str {x j pos} : EE X W (.Constant (.str x) j pos) (tC (.str x)) (eC (.str x)) := ee_c pe_str fun _ => .str x

/-! ### operators -/
theorem opOr {X : Cx} {f : Value → Value → Sem Value} {r r' : R2} (h : OpR X f r) (h' : OpR X f r') : OpR X f (fun x y H Q => r x y H Q ∨ r' x y H Q) := by
  intro pins s σ H x y v u Q I rx ry q
  rcases q with q | q
  · exact h pins s σ H x y v u Q I rx ry q
  · exact h' pins s σ H x y v u Q I rx ry q
structure O2 (X : Cx) (f : Value → Value → Sem Value) (r : R2) (g : D → D → Option D) : Prop where
  op : OpR X f r
  go : ∀ (R H : Hp) (x y : V) (a b c : D) (Q : VK), Sb R H → Den X.K X.mg R x a → Den X.K X.mg R y b → g a b = some c → (∀ R' H' v, Wd R H R' H' → Den X.K X.mg R' v c → Q v H') → r x y H Q
def eOp (g : D → D → Option D) (fa fb : PEnv → Rs D) : PEnv → Rs D := fun ρ => (fa ρ).bind fun x => (fb ρ).bind fun y => ofO (g x y)
theorem op2_go {r : R2} {g : D → D → Option D} (hg : ∀ (R H : Hp) (x y : V) (a b c : D) (Q : VK), Sb R H → Den X.K X.mg R x a → Den X.K X.mg R y b → g a b = some c → (∀ R' H' v, Wd R H R' H' → Den X.K X.mg R' v c → Q v H') → r x y H Q)
    (ha : EE X W a ta fa) (hb : EE X W b tb fb) (R H : Hp) (σ : St) (ρ : PEnv) (Q : VK) (rh : Sb R H) (s : SlP X.K X.mg R H σ ρ) (k : After X.K X.mg W σ R H (eOp g fa fb ρ) (fun d R' H' => ∀ v, Den X.K X.mg R' v d → Q v H')) : tOp r ta tb σ H Q := by
  refine ha.go R H σ ρ _ rh s ((After.bind k).imp fun da R1 H1 w1 k1 v dv => ?_)
  refine hb.go R1 H1 σ ρ _ w1.rh (s.mono rh w1) ((After.bind k1).imp fun db R2 H2 w2 k2 u du => ?_)
  cases hc : g da db with
  | none => rw [hc] at k2; exact k2.elim
  | some c =>
    rw [hc] at k2
    exact hg R2 H2 v u da db c Q w2.rh (dv.mono w2.rr) du hc fun R' H' z wz dz => k2 R' H' wz z dz
theorem ee_op {op : Operator} {r : R2} {g : D → D → Option D} (ho : O2 X (binaryOp op) r g) (ha : EE X W a ta fa) (hb : EE X W b tb fb) : EE X W (.BinOp a op b pos) (tOp r ta tb) (eOp g fa fb) :=
  ⟨fun tk => pe_op ho.op (ha.pe tk) (hb.pe tk), op2_go ho.go ha hb⟩
theorem ee_cmp {op : CmpOp} {r : R2} {g : D → D → Option D} (ho : O2 X (compareOp op) r g) (ha : EE X W a ta fa) (hb : EE X W b tb fb) (hm : behindInMarks op b = false) : EE X W (.Compare a [op] [b] pos) (tOp r ta tb) (eOp g fa fb) :=
  ⟨fun tk => pe_cmpR ho.op (ha.pe tk) (hb.pe tk) hm, op2_go ho.go ha hb⟩
/-- a datum that is True or False -/
def tst : Rs D → Rs Bool
  | .ok (.bl b) => .ok b
  | .ok _ => .bad
  | .ex C fs => .ex C fs
  | .bad => .bad
@[simp] theorem tst_bl (b : Bool) : tst (.ok (.bl b)) = .ok b := rfl
theorem After.tst {K : PySem.W.Frag} {mg : Str → Option Value} {σ : St} {R H : Hp} {r : Rs D} {Q : Bool → Hp → Prop} (k : After K mg W σ R H (tst r) (fun b _ H' => Q b H')) :
    After K mg W σ R H r (fun d R' H' => ∀ v, Den K mg R' v d → ∃ c, v = .bl c ∧ Q c H') := by
  cases r with
  | ok d =>
    cases d with
    | bl b => exact fun R' H' w v dv => by cases dv; exact ⟨b, rfl, k R' H' w⟩
    | _ => exact k.elim
  | ex C fs => exact k
  | bad => exact k
theorem et_cmp {op : CmpOp} {r : R2} {g : D → D → Option D} (ho : O2 X (compareOp op) r g) (ha : EE X W a ta fa) (hb : EE X W b tb fb) (hm : behindInMarks op b = false) : ET X W (.Compare a [op] [b] pos) (tTest (tOp r ta tb)) (fun ρ => tst (eOp g fa fb ρ)) :=
  ⟨fun tk => pt_cmpR ho.op (ha.pe tk) (hb.pe tk) hm, fun R H σ ρ Q rh s k => op2_go ho.go ha hb R H σ ρ _ rh s (After.tst k)⟩
/-- a test by a value that is True or False -/
theorem et_val (h : EE X W e t f) (he : ∀ whole, isTrue e X.env whole = (do let v ← whole; standAt e.pos; holding [v] (truthy v)) := by intro _; rfl) : ET X W e (tB t) (fun ρ => tst (f ρ)) :=
  ⟨fun tk => pt_val (h.pe tk) he, fun R H σ ρ Q rh s k => h.go R H σ ρ _ rh s (After.tst k)⟩

/-! and, or, not -/
structure EW (X : Cx) (W : WX) (e : Expr) (t : TT) (f : PEnv → Rs Bool) : Prop where
  pw : L2N.Takes X W → PW X e t
  go : ∀ (R H : Hp) (σ : St) (ρ : PEnv) (Q : Bool → Hp → Prop), Sb R H → SlP X.K X.mg R H σ ρ → After X.K X.mg W σ R H (f ρ) (fun b _ H' => Q b H') → t σ H Q
def eAnd (f g : PEnv → Rs Bool) : PEnv → Rs Bool := fun ρ => (f ρ).bind fun c => if c = true then g ρ else .ok false
def eOr (f g : PEnv → Rs Bool) : PEnv → Rs Bool := fun ρ => (f ρ).bind fun c => if c = true then .ok true else g ρ
def eNot (f : PEnv → Rs Bool) : PEnv → Rs Bool := fun ρ => (f ρ).bind fun c => .ok (!c)
variable {ga gb : PEnv → Rs Bool} {ua ub : TT} {rest : List Expr}
theorem ew_and1 (h : ET X W a ua ga) : EW X W (.BoolOp .And [a] pos) ua ga := ⟨fun tk => pw_and1 (h.pt tk), h.go⟩
theorem ew_or1 (h : ET X W a ua ga) : EW X W (.BoolOp .Or [a] pos) ua ga := ⟨fun tk => pw_or1 (h.pt tk), h.go⟩
theorem ew_and (h : ET X W a ua ga) (h2 : EW X W (.BoolOp .And (b :: rest) pos) ub gb) : EW X W (.BoolOp .And (a :: b :: rest) pos) (tAnd ua ub) (eAnd ga gb) :=
  ⟨fun tk => pw_and (h.pt tk) (h2.pw tk), fun R H σ ρ Q rh s k => h.go R H σ ρ _ rh s ((After.bind k).imp fun c R1 H1 w1 k1 => by
    cases c with
    | true => exact h2.go R1 H1 σ ρ Q w1.rh (s.mono rh w1) k1
    | false => exact After.ok w1.rh k1)⟩
theorem ew_or (h : ET X W a ua ga) (h2 : EW X W (.BoolOp .Or (b :: rest) pos) ub gb) : EW X W (.BoolOp .Or (a :: b :: rest) pos) (tOr ua ub) (eOr ga gb) :=
  ⟨fun tk => pw_or (h.pt tk) (h2.pw tk), fun R H σ ρ Q rh s k => h.go R H σ ρ _ rh s ((After.bind k).imp fun c R1 H1 w1 k1 => by
    cases c with
    | true => exact After.ok w1.rh k1
    | false => exact h2.go R1 H1 σ ρ Q w1.rh (s.mono rh w1) k1)⟩
theorem EW.tt (h : EW X W e ua ga) : ET X W e ua ga := ⟨fun tk => (h.pw tk).pt, h.go⟩
theorem et_not (h : ET X W a ua ga) : ET X W (.UnaryOp .Not a pos) (tNot ua) (eNot ga) :=
  ⟨fun tk => pt_not (h.pt tk), fun R H σ ρ Q rh s k => h.go R H σ ρ _ rh s ((After.bind k).imp fun c R1 H1 w1 k1 => After.ok w1.rh k1)⟩
/-- .. as values -/
def toB (f : PEnv → Rs Bool) : PEnv → Rs D := fun ρ => (f ρ).bind fun c => .ok (.bl c)
def eAndV (fa fb : PEnv → Rs D) : PEnv → Rs D := fun ρ => (tst (fa ρ)).bind fun c => if c = true then fb ρ else .ok (.bl false)
def eOrV (fa fb : PEnv → Rs D) : PEnv → Rs D := fun ρ => (tst (fa ρ)).bind fun c => if c = true then .ok (.bl true) else fb ρ
def eNotV (fa : PEnv → Rs D) : PEnv → Rs D := fun ρ => (tst (fa ρ)).bind fun c => .ok (.bl (!c))
theorem After.tstR {K : PySem.W.Frag} {mg : Str → Option Value} {σ : St} {R H : Hp} {r : Rs D} {Q : Bool → Hp → Hp → Prop} (k : After K mg W σ R H (PL.tst r) Q) :
    After K mg W σ R H r (fun d R' H' => ∀ v, Den K mg R' v d → ∃ c, v = .bl c ∧ Q c R' H') := by
  cases r with
  | ok d =>
    cases d with
    | bl b => exact fun R' H' w v dv => by cases dv; exact ⟨b, rfl, k R' H' w⟩
    | _ => exact k.elim
  | ex C fs => exact k
  | bad => exact k
theorem ee_one {op} (h : EE X W a ta fa) : EE X W (.BoolOp op [a] pos) ta fa := ⟨fun tk => pe_one (h.pe tk), h.go⟩
theorem ee_and (h : EE X W a ta fa) (h2 : EE X W (.BoolOp .And (b :: rest) pos) tb fb) : EE X W (.BoolOp .And (a :: b :: rest) pos) (tAndV ta tb) (eAndV fa fb) :=
  ⟨fun tk => pe_and (h.pe tk) (h2.pe tk), fun R H σ ρ Q rh s k => h.go R H σ ρ _ rh s ((After.tstR (After.bind k)).imp fun d R1 H1 w1 k1 v dv => by
    obtain ⟨c, rfl, k1⟩ := k1 v dv
    refine ⟨c, rfl, ?_⟩
    cases c with
    | true => exact h2.go R1 H1 σ ρ Q w1.rh (s.mono rh w1) k1
    | false => exact (After.ok w1.rh k1) _ (.bl false))⟩
theorem ee_or (h : EE X W a ta fa) (h2 : EE X W (.BoolOp .Or (b :: rest) pos) tb fb) : EE X W (.BoolOp .Or (a :: b :: rest) pos) (tOrV ta tb) (eOrV fa fb) :=
  ⟨fun tk => pe_or (h.pe tk) (h2.pe tk), fun R H σ ρ Q rh s k => h.go R H σ ρ _ rh s ((After.tstR (After.bind k)).imp fun d R1 H1 w1 k1 v dv => by
    obtain ⟨c, rfl, k1⟩ := k1 v dv
    refine ⟨c, rfl, ?_⟩
    cases c with
    | true => exact (After.ok w1.rh k1) _ (.bl true)
    | false => exact h2.go R1 H1 σ ρ Q w1.rh (s.mono rh w1) k1)⟩
theorem ee_not (h : EE X W a ta fa) : EE X W (.UnaryOp .Not a pos) (tNotV ta) (eNotV fa) :=
  ⟨fun tk => pe_not (h.pe tk), fun R H σ ρ Q rh s k => h.go R H σ ρ _ rh s ((After.tstR (After.bind k)).imp fun d R1 H1 w1 k1 v dv => by
    obtain ⟨c, rfl, k1⟩ := k1 v dv
    exact ⟨c, rfl, (After.ok w1.rh k1) _ (.bl _)⟩)⟩
def eIf (g : PEnv → Rs Bool) (fa fb : PEnv → Rs D) : PEnv → Rs D := fun ρ => (g ρ).bind fun c => if c = true then fa ρ else fb ρ
theorem ee_if {c : Expr} (h : ET X W c ua ga) (h1 : EE X W a ta fa) (h2 : EE X W b tb fb) : EE X W (.IfExp c a b pos) (tIf ua ta tb) (eIf ga fa fb) :=
  ⟨fun tk => pe_ifExp (h.pt tk) (h1.pe tk) (h2.pe tk), fun R H σ ρ Q rh s k => h.go R H σ ρ _ rh s ((After.bind k).imp fun c R1 H1 w1 k1 => by
    cases c with
    | true => exact h1.go R1 H1 σ ρ Q w1.rh (s.mono rh w1) k1
    | false => exact h2.go R1 H1 σ ρ Q w1.rh (s.mono rh w1) k1)⟩

/-! arguments, displays -/
variable {es : List Expr} {tr : TA} {fr : PEnv → Rs (List D)}
def eNil : PEnv → Rs (List D) := fun _ => .ok []
def eCons (f : PEnv → Rs D) (g : PEnv → Rs (List D)) : PEnv → Rs (List D) := fun ρ => (f ρ).bind fun d => (g ρ).bind fun ds => .ok (d :: ds)
theorem ea_nil : EA X W [] tNil eNil := ⟨fun tk => pa_nil, fun R H σ ρ Q rh s k => (After.ok rh k) [] .nil⟩
theorem ea_cons (h : EE X W e t f) (hr : EA X W es tr fr) (hs : starEach (e :: es) X.env = (false, eval e X.env) :: starEach es X.env := by rfl) : EA X W (e :: es) (tCons t tr) (eCons f fr) :=
  ⟨fun tk => pa_cons (h.pe tk) (hr.pa tk) hs, fun R H σ ρ Q rh s k => h.go R H σ ρ _ rh s ((After.bind k).imp fun d R1 H1 w1 k1 v dv =>
    hr.go R1 H1 σ ρ _ w1.rh (s.mono rh w1) ((After.bind k1).imp fun ds R2 H2 w2 k2 vs dvs => (After.ok w2.rh k2) (v :: vs) (.cons (dv.mono w2.rr) dvs)))⟩
def okL (ds : List D) : Bool := decide (ds.length ≤ 16777216)
def eTup (f : PEnv → Rs (List D)) : PEnv → Rs D := fun ρ => (f ρ).bind fun ds => if okL ds = true then .ok (.tup ds) else .bad
def eLst (f : PEnv → Rs (List D)) : PEnv → Rs (List D) := fun ρ => (f ρ).bind fun ds => if okL ds = true then .ok ds else .bad
theorem okL_len {ds : List D} {vs : List V} {K : PySem.W.Frag} {mg : Str → Option Value} {R : Hp} (h : okL ds = true) (dl : DenL K mg R vs ds) : vs.length ≤ sizeLine := by
  rw [sizeLine_eq, dl.len]; exact of_decide_eq_true h
theorem ee_tup {x1} (h : EA X W es tr fr) : EE X W (.Tuple es x1 pos) (tTup tr) (eTup fr) :=
  ⟨fun tk => pe_tup (h.pa tk), fun R H σ ρ Q rh s k => h.go R H σ ρ _ rh s ((After.bind k).imp fun ds R1 H1 w1 k1 vs dvs => by
    by_cases hz : okL ds = true
    · rw [if_pos hz] at k1
      exact ⟨okL_len hz dvs, fun p hp => k1 _ _ (Wd.new w1.rh hp) _ (.tup (.inl (.inl upd_same)) (dvs.mono (Sb.upd (w1.rh.no hp))))⟩
    · rw [if_neg hz] at k1; exact k1.elim)⟩
theorem en_lst (h : EA X W es tr fr) : EN X W (.List es pos) (tLst tr) (eLst fr) :=
  ⟨fun tk => pe_lst (h.pa tk), fun R H σ ρ Q rh s k => h.go R H σ ρ _ rh s ((After.bind k).imp fun ds R1 H1 w1 k1 vs dvs => by
    by_cases hz : okL ds = true
    · rw [if_pos hz] at k1
      refine ⟨okL_len hz dvs, fun p hp => ?_⟩
      have := k1 R1 (upd H1 p (.lst vs)) (Wd.out w1.rh hp)
      exact this p vs (w1.hh.no hp) (w1.rh.no hp) upd_same dvs
    · rw [if_neg hz] at k1; exact k1.elim)⟩

/-! calls of defs -/
theorem passN {X : Cx} : Passes (L2N.CX X.prog X.w) X E0 := fun _ _ _ _ _ _ _ h => by
  obtain ⟨_, _, _, _, _, _, _, _, _, _, _, _, z⟩ := h; exact z.elim
theorem takesN {X : Cx} : L2N.Takes X (fun _ _ _ _ => False) := fun _ _ x => by
  obtain ⟨_, _, _, _, _, _, _, _, _, _, _, _, _, _, _, _, z⟩ := x; exact z.elim
def AfterF (K : PySem.W.Frag) (mg : Str → Option Value) (R H : Hp) (Q : VK) (E : XK) : Rs D → Prop
  | .ok d => ∀ R' H' v, Wd R H R' H' → Den K mg R' v d → Q v H'
  | .ex C fs => ∀ R' H' CA dd xs, Wd R H R' H' → mg C = some (.ref CA) → H dd = none → R' dd = some (.xd xs) → DenF K mg R' xs fs → E (.ref CA) (some dd) H'
  | .bad => False
/-- a def's promise by its pure function of n arguments -/
def spF (K : PySem.W.Frag) (mg : Str → Option Value) (n : Nat) (F : List D → Rs D) : Sp := fun vs H Q E => ∃ ds R, ds.length = n ∧ Sb R H ∧ DenL K mg R vs ds ∧ AfterF K mg R H Q E (F ds)
/-- the def named x keeps it -/
structure FnP (P : Program) (w : World) (K : PySem.W.Frag) (mg : Str → Option Value) (base : Heap) (k : Nat) (x : Str) (n : Nat) (F : List D → Rs D) : Prop where
  ex : ∃ f fd ps, mg x = some (.ref f) ∧ PySem.W.keepIn K (.ref f) = true ∧ Binds K fd ps [] ∧ FnOk P w K mg base (L2N.CX P w) k f fd ps (spF K mg n F)
theorem FnP.mono {P : Program} {w : World} {K : PySem.W.Frag} {mg : Str → Option Value} {base : Heap} {j k : Nat} {x : Str} {n : Nat} {F : List D → Rs D} (h : FnP P w K mg base j x n F) (l : j ≤ k) : FnP P w K mg base k x n F := by
  obtain ⟨f, fd, ps, h1, h2, h3, h4⟩ := h.ex
  exact ⟨f, fd, ps, h1, h2, h3, h4.mono l⟩
def tFn (K : PySem.W.Frag) (mg : Str → Option Value) (n : Nat) (F : List D → Rs D) (W : WX) (t : TA) : TE := tCallSD (spF K mg n F) [] (fun σ => WE W σ) t
def eFn (n : Nat) (F : List D → Rs D) (g : PEnv → Rs (List D)) : PEnv → Rs D := fun ρ => (g ρ).bind fun ds => if ds.length = n then F ds else .bad
theorem call_go {n : Nat} {F : List D → Rs D} (h : EA X W es tr fr) (R H : Hp) (σ : St) (ρ : PEnv) (Q : VK) (rh : Sb R H) (s : SlP X.K X.mg R H σ ρ) (k : After X.K X.mg W σ R H (eFn n F fr ρ) (fun d R' H' => ∀ v, Den X.K X.mg R' v d → Q v H')) : tFn X.K X.mg n F W tr σ H Q := by
  refine h.go R H σ ρ _ rh s ((After.bind k).imp fun ds R1 H1 w1 k1 vs dvs => ?_)
  by_cases hn : ds.length = n
  · rw [if_pos hn] at k1
    refine ⟨ds, R1, hn, w1.rh, by rw [List.append_nil]; exact dvs, ?_⟩
    cases hF : F ds with
    | ok d => rw [hF] at k1; exact fun R' H' v w dv => k1 R' H' w v dv
    | ex C fs => rw [hF] at k1; exact k1
    | bad => rw [hF] at k1; exact k1.elim
  · rw [if_neg hn] at k1; exact k1.elim
theorem ee_call {kk : Nat} {n : Nat} {F : List D → Rs D} {x : Str} {p : Pos} (G : FnP X.prog X.w X.K X.mg X.base kk x n F) (hr : Room kk X.A) (hg : Gl X x) (h : EA X W (e :: es) tr fr)
    (hdb : (x == ("__debug__" : Str)) = false := by decide) (he : starEach (e :: es) X.env = (false, eval e X.env) :: starEach es X.env := by rfl) (hpl : (backTo pos (starEach es X.env)).any (·.1) = false := by rfl) :
    EE X W (.Call (.Name x p) (e :: es) [] pos) (tFn X.K X.mg n F W tr) (eFn n F fr) := by
  obtain ⟨f, fd, ps, h1, h2, h3, h4⟩ := G.ex
  exact ⟨fun tk => pe_callSD h4 hr hg h1 h2 h3 .nil (fun σ => L2N.passAt tk σ) (h.pa tk) hdb he hpl, call_go h⟩
def eF0 (F : List D → Rs D) : PEnv → Rs D := fun _ => match F [] with | .ok d => .ok d | _ => .bad
theorem ee_call0 {kk : Nat} {F : List D → Rs D} {x : Str} {p : Pos} (G : FnP X.prog X.w X.K X.mg X.base kk x 0 F) (hr : Room kk X.A) (hg : Gl X x) 
    (hdb : (x == ("__debug__" : Str)) = false := by decide) :
    EE X W (.Call (.Name x p) [] [] pos) (tCall (spF X.K X.mg 0 F) [] E0 tNil) (eF0 F) := by
  obtain ⟨f, fd, ps, h1, h2, h3, h4⟩ := G.ex
  refine ⟨fun tk => pe_call0 h4 hr hg h1 h2 h3 .nil passN hdb, fun R H σ ρ Q rh s k => ⟨[], R, rfl, rh, .nil, ?_⟩⟩
  unfold eF0 at k
  cases hF : F [] with
  | ok d => simp only [hF] at k; exact fun R' H' v w dv => k R' H' w v dv
  | ex C fs => simp only [hF] at k; exact k.elim
  | bad => simp only [hF] at k; exact k.elim

/-! calls of built-ins by values -/
structure O1 (X : Cx) (f : Value) (r : List V → Hp → VK → Prop) (g : List D → Option D) : Prop where
  op : CallR X f r
  go : ∀ (R H : Hp) (vs : List V) (ds : List D) (c : D) (Q : VK), Sb R H → DenL X.K X.mg R vs ds → g ds = some c → (∀ R' H' v, Wd R H R' H' → Den X.K X.mg R' v c → Q v H') → r vs H Q
def eB (g : List D → Option D) (fr : PEnv → Rs (List D)) : PEnv → Rs D := fun ρ => (fr ρ).bind fun ds => ofO (g ds)
theorem eb_go {r : List V → Hp → VK → Prop} {g : List D → Option D} (hg : ∀ (R H : Hp) (vs : List V) (ds : List D) (c : D) (Q : VK), Sb R H → DenL X.K X.mg R vs ds → g ds = some c → (∀ R' H' v, Wd R H R' H' → Den X.K X.mg R' v c → Q v H') → r vs H Q)
    (h : EA X W es tr fr) (R H : Hp) (σ : St) (ρ : PEnv) (Q : VK) (rh : Sb R H) (s : SlP X.K X.mg R H σ ρ) (k : After X.K X.mg W σ R H (eB g fr ρ) (fun d R' H' => ∀ v, Den X.K X.mg R' v d → Q v H')) : tCB r tr σ H Q := by
  refine h.go R H σ ρ _ rh s ((After.bind k).imp fun ds R1 H1 w1 k1 vs dvs => ?_)
  cases hc : g ds with
  | none => rw [hc] at k1; exact k1.elim
  | some c => rw [hc] at k1; exact hg R1 H1 vs ds c Q w1.rh dvs hc fun R' H' v w dv => k1 R' H' w v dv
theorem ee_B {id : String} {r : List V → Hp → VK → Prop} {g : List D → Option D} {x : Str} {p : Pos} (hc : O1 X (.builtin id) r g) (hg : Gl X x) (hm : X.mg x = none) (hv : bootBuiltins x = some (.builtin id)) (h : EA X W (e :: es) tr fr) (hn : x ≠ "__name__" := by decide) (hdb : (x == ("__debug__" : Str)) = false := by decide)
    (he : starEach (e :: es) X.env = (false, eval e X.env) :: starEach es X.env := by rfl) (hpl : (backTo pos (starEach es X.env)).any (·.1) = false := by rfl) : EE X W (.Call (.Name x p) (e :: es) [] pos) (tCB r tr) (eB g fr) :=
  ⟨fun tk => pe_callB hc.op hg hm hv (h.pa tk) hn hdb he hpl, eb_go hc.go h⟩
theorem ee_Ty {T : String} {r : List V → Hp → VK → Prop} {g : List D → Option D} {x : Str} {p : Pos} (hc : O1 X (.type T) r g) (hg : Gl X x) (hm : X.mg x = none) (hv : bootBuiltins x = some (.type T)) (h : EA X W (e :: es) tr fr) (hn : x ≠ "__name__" := by decide) (hdb : (x == ("__debug__" : Str)) = false := by decide)
    (he : starEach (e :: es) X.env = (false, eval e X.env) :: starEach es X.env := by rfl) (hpl : (backTo pos (starEach es X.env)).any (·.1) = false := by rfl) : EE X W (.Call (.Name x p) (e :: es) [] pos) (tCB r tr) (eB g fr) :=
  ⟨fun tk => pe_callTy hc.op hg hm hv (h.pa tk) hn hdb he hpl, eb_go hc.go h⟩
/-- one argument that may be an owned list -/
structure O1x (X : Cx) (f : Value) (r : List V → Hp → VK → Prop) (g : D → Option D) : Prop where
  op : CallR X f r
  go : ∀ (R H : Hp) (σ : St) (ρ : PEnv) (v : V) (d c : D) (Q : VK), Sb R H → DenX X.K X.mg R H σ ρ v d → g d = some c → (∀ R' H' v, Wd R H R' H' → Den X.K X.mg R' v c → Q v H') → r [v] H Q
def eX (g : D → Option D) (f : PEnv → Rs D) : PEnv → Rs D := fun ρ => (f ρ).bind fun d => ofO (g d)
theorem ex_pa {p : Expr} {tp : TE} {X : Cx} (h : PE X p tp) (hs : starEach [p] X.env = [(false, eval p X.env)] := by rfl) : PA X [p] (tCons tp tNil) := pa_cons h pa_nil hs
theorem x1_go {r : List V → Hp → VK → Prop} {g : D → Option D} (hg : ∀ (R H : Hp) (σ : St) (ρ : PEnv) (v : V) (d c : D) (Q : VK), Sb R H → DenX X.K X.mg R H σ ρ v d → g d = some c → (∀ R' H' v, Wd R H R' H' → Den X.K X.mg R' v c → Q v H') → r [v] H Q)
    (h : EX X W e t f) (R H : Hp) (σ : St) (ρ : PEnv) (Q : VK) (rh : Sb R H) (s : SlP X.K X.mg R H σ ρ) (k : After X.K X.mg W σ R H (eX g f ρ) (fun d R' H' => ∀ v, Den X.K X.mg R' v d → Q v H')) : tCB r (tCons t tNil) σ H Q := by
  refine h.go R H σ ρ _ rh s ((After.bind k).imp fun d R1 H1 w1 k1 v dv => ?_)
  cases hc : g d with
  | none => rw [hc] at k1; exact k1.elim
  | some c => rw [hc] at k1; exact hg R1 H1 σ ρ v d c Q w1.rh dv hc fun R' H' v w dv => k1 R' H' w v dv
theorem ee_Bx {id : String} {r : List V → Hp → VK → Prop} {g : D → Option D} {x : Str} {p : Pos} (hc : O1x X (.builtin id) r g) (hg : Gl X x) (hm : X.mg x = none) (hv : bootBuiltins x = some (.builtin id)) (h : EX X W e t f) (hn : x ≠ "__name__" := by decide) (hdb : (x == ("__debug__" : Str)) = false := by decide)
    (he : starEach [e] X.env = [(false, eval e X.env)] := by rfl) (hpl : (backTo pos (starEach [] X.env)).any (·.1) = false := by rfl) : EE X W (.Call (.Name x p) [e] [] pos) (tCB r (tCons t tNil)) (eX g f) :=
  ⟨fun tk => pe_callB hc.op hg hm hv (ex_pa (h.pe tk) he) hn hdb he hpl, x1_go hc.go h⟩
theorem ee_Tyx {T : String} {r : List V → Hp → VK → Prop} {g : D → Option D} {x : Str} {p : Pos} (hc : O1x X (.type T) r g) (hg : Gl X x) (hm : X.mg x = none) (hv : bootBuiltins x = some (.type T)) (h : EX X W e t f) (hn : x ≠ "__name__" := by decide) (hdb : (x == ("__debug__" : Str)) = false := by decide)
    (he : starEach [e] X.env = [(false, eval e X.env)] := by rfl) (hpl : (backTo pos (starEach [] X.env)).any (·.1) = false := by rfl) : EE X W (.Call (.Name x p) [e] [] pos) (tCB r (tCons t tNil)) (eX g f) :=
  ⟨fun tk => pe_callTy hc.op hg hm hv (ex_pa (h.pe tk) he) hn hdb he hpl, x1_go hc.go h⟩
end
end PL

/-! the pure layer, part C: operators and built-ins -/
namespace PL
open PySem PySem.Spec PyProof.Rows L2

/-! ### ints -/
def i2 (g : Int → Int → Option D) : D → D → Option D
  | .int i, .int j => g i j
  | _, _ => none
@[simp] theorem i2_int (g : Int → Int → Option D) (i j : Int) : i2 g (.int i) (.int j) = g i j := rfl
section
variable {X : Cx}
theorem o2_I {f : Value → Value → Sem Value} {C : Int → Int → Prop} {g : Int → Int → V} {h : Int → Int → Option D} (ho : OpR X f (rI C g)) (hg : ∀ i j c R, h i j = some c → C i j ∧ Den X.K X.mg R (g i j) c) : O2 X f (rI C g) (i2 h) :=
  ⟨ho, fun R H x y a b c Q rh da db e k => by
    cases da with
    | int i =>
      cases db with
      | int j => obtain ⟨h1, h2⟩ := hg i j c R e; exact ⟨i, j, rfl, rfl, h1, k R H _ (Wd.refl rh) h2⟩
      | _ => cases e
    | _ => cases db <;> cases e⟩
theorem o2_I0 {f : Value → Value → Sem Value} {g : Int → Int → V} {h : Int → Int → D} (ho : OpR X f (rI0 g)) (hg : ∀ i j R, Den X.K X.mg R (g i j) (h i j)) : O2 X f (rI0 g) (i2 fun i j => some (h i j)) :=
  ⟨ho, fun R H x y a b c Q rh da db e k => by
    cases da with
    | int i =>
      cases db with
      | int j => cases e; exact ⟨i, j, rfl, rfl, k R H _ (Wd.refl rh) (hg i j R)⟩
      | _ => cases e
    | _ => cases db <;> cases e⟩
def subD : D → D → Option D := i2 fun i j => some (.int (i - j))
theorem o_sub : O2 X (binaryOp .Sub) (rI0 fun i j => .int (i - j)) subD := o2_I0 op_sub fun _ _ _ => .int _
def andD : D → D → Option D := i2 fun i j => some (.int (Builtin.bitAnd i j))
theorem o_and : O2 X (binaryOp .BitAnd) (rI0 fun i j => .int (Builtin.bitAnd i j)) andD := o2_I0 op_and fun _ _ _ => .int _
def orD : D → D → Option D := i2 fun i j => some (.int (Builtin.bitOr i j))
theorem o_or : O2 X (binaryOp .BitOr) (rI0 fun i j => .int (Builtin.bitOr i j)) orD := o2_I0 op_or fun _ _ _ => .int _
def xorD : D → D → Option D := i2 fun i j => some (.int (Builtin.bitXor i j))
theorem o_xor : O2 X (binaryOp .BitXor) (rI0 fun i j => .int (Builtin.bitXor i j)) xorD := o2_I0 op_xor fun _ _ _ => .int _
def modD : D → D → Option D := i2 fun i j => if 0 < j then some (.int (i % j)) else none
theorem o_mod : O2 X (binaryOp .Mod) (rI (fun _ j => 0 < j) fun i j => .int (i % j)) modD := o2_I op_mod fun i j c R e => by
  split at e
  · cases e; exact ⟨by assumption, .int _⟩
  · cases e
noncomputable def fdivD : D → D → Option D := i2 fun i j => @ite (Option D) (0 < j ∧ j < 2 ^ 64) (Classical.propDecidable _) (some (.int (i / j))) none
theorem log_64 {j : Int} (h : 0 < j ∧ j < 2 ^ 64) : j.natAbs.log2 < 9000 := by
  have h1 : j.natAbs < 2 ^ 64 := by omega
  have h2 : j.natAbs ≠ 0 := by omega
  have := (Nat.log2_lt h2).mpr h1
  omega
theorem o_fdiv : O2 X (binaryOp .FloorDiv) (rI CDivW fun i j => .int (i / j)) fdivD := o2_I op_fdivW fun i j c R e => by
  split at e
  · rename_i h; cases e; exact ⟨⟨h.1, log_64 h⟩, .int _⟩
  · cases e
def smallF (i : Int) : Prop := -(2 ^ 64) < i ∧ i < 2 ^ 64
noncomputable def mulI : D → D → Option D := i2 fun i j => @ite (Option D) (smallF i ∨ smallF j) (Classical.propDecidable _) (some (.int (i * j))) none
noncomputable def shlD : D → D → Option D := i2 fun i j => @ite (Option D) (0 ≤ j ∧ j ≤ 1000000 ∧ i.natAbs < 2 ^ 64) (Classical.propDecidable _) (some (.int (i * 2 ^ j.toNat))) none
theorem o_shl : O2 X (binaryOp .LShift) (rI CPow fun i j => .int (i * 2 ^ j.toNat)) shlD := o2_I op_shl fun i j c R e => by
  split at e
  · rename_i h; cases e; exact ⟨h, .int _⟩
  · cases e
noncomputable def powD : D → D → Option D := i2 fun i j => @ite (Option D) (0 ≤ j ∧ j ≤ 1000000 ∧ i.natAbs < 2 ^ 64) (Classical.propDecidable _) (some (.int (i ^ j.toNat))) none
theorem o_pow : O2 X (binaryOp .Pow) (rI CPow fun i j => .int (i ^ j.toNat)) powD := o2_I op_pow fun i j c R e => by
  split at e
  · rename_i h; cases e; exact ⟨h, .int _⟩
  · cases e
def shrD : D → D → Option D := i2 fun i j => if 0 ≤ j then some (.int (i / 2 ^ j.toNat)) else none
theorem o_shr : O2 X (binaryOp .RShift) (rI (fun _ j => 0 ≤ j) fun i j => .int (i / 2 ^ j.toNat)) shrD := o2_I op_shr fun i j c R e => by
  split at e
  · rename_i h; cases e; exact ⟨h, .int _⟩
  · cases e
def ltD : D → D → Option D := i2 fun i j => some (.bl (decide (i < j)))
theorem o_lt : O2 X (compareOp .Lt) (rI0 fun i j => .bl (decide (i < j))) ltD := o2_I0 op_lt fun _ _ _ => .bl _
def leD : D → D → Option D := i2 fun i j => some (.bl (decide (i ≤ j)))
theorem o_le : O2 X (compareOp .LtE) (rI0 fun i j => .bl (decide (i ≤ j))) leD := o2_I0 op_le fun _ _ _ => .bl _
def gtD : D → D → Option D := i2 fun i j => some (.bl (decide (j < i)))
theorem o_gt : O2 X (compareOp .Gt) (rI0 fun i j => .bl (decide (j < i))) gtD := o2_I0 op_gt fun _ _ _ => .bl _
def geD : D → D → Option D := i2 fun i j => some (.bl (decide (j ≤ i)))
theorem o_ge : O2 X (compareOp .GtE) (rI0 fun i j => .bl (decide (j ≤ i))) geD := o2_I0 op_ge fun _ _ _ => .bl _

/-! ### + and * of any kind -/
def addD : D → D → Option D
  | .int i, .int j => some (.int (i + j))
  | .str x, .str y => if x.length + y.length ≤ 16777216 then some (.str (x ++ y)) else none
  | .lst xs, .lst ys => if xs.length + ys.length ≤ 16777216 then some (.lst (xs ++ ys)) else none
  | .tup xs, .tup ys => if xs.length + ys.length ≤ 16777216 then some (.tup (xs ++ ys)) else none
  | _, _ => none
abbrev rAddA (K : PySem.W.Frag) : R2 := fun x y H Q => (rI0 fun i j => .int (i + j)) x y H Q ∨ (∃ i j, x = .str i ∧ y = .str j ∧ i.length + j.length ≤ sizeLine ∧ Q (.str (i ++ j)) H) ∨ rCat x y H Q ∨ rCatA K x y H Q
theorem o_add : O2 X (binaryOp .Add) (rAddA X.K) addD :=
  ⟨opOr op_add (opOr op_add_str (opOr op_cat op_catA)), fun R H x y a b c Q rh da db e k => by
    cases da with
    | int i =>
      cases db with
      | int j => cases e; exact .inl ⟨i, j, rfl, rfl, k R H _ (Wd.refl rh) (.int _)⟩
      | _ => cases e
    | str i =>
      cases db with
      | str j =>
        simp only [addD] at e
        split at e
        · rename_i hz; cases e; exact .inr (.inl ⟨i, j, rfl, rfl, by rw [sizeLine_eq]; exact hz, k R H _ (Wd.refl rh) (.str _)⟩)
        · cases e
      | _ => cases e
    | @lst a xs ds h1 h2 =>
      cases db with
      | @lst b ys es g1 g2 =>
        simp only [addD] at e
        split at e
        · rename_i hz; cases e
          refine .inr (.inr (.inl ⟨a, b, xs, ys, rfl, rfl, rh _ _ h1, rh _ _ g1, by rw [sizeLine_eq, h2.len, g2.len]; exact hz, fun p hp => k _ _ _ (Wd.new rh hp) (.lst upd_same ((h2.app g2).mono (Sb.upd (rh.no hp))))⟩))
        · cases e
      | _ => cases e
    | @tup a xs ds h1 h2 =>
      cases db with
      | @tup b ys es g1 g2 =>
        simp only [addD] at e
        split at e
        · rename_i hz; cases e
          refine .inr (.inr (.inr ⟨a, b, xs, ys, rfl, rfl, rh.t h1, rh.t g1, by rw [sizeLine_eq, h2.len, g2.len]; exact hz, fun z => ?_, fun _ z => ?_, fun _ _ p hp => k _ _ _ (Wd.new rh hp) (.tup (.inl (.inl upd_same)) ((h2.app g2).mono (Sb.upd (rh.no hp))))⟩))
          · subst z; cases h2; exact k R H _ (Wd.refl rh) (.tup g1 g2)
          · subst z; cases g2; rw [List.append_nil] at k; exact k R H _ (Wd.refl rh) (.tup h1 h2)
        · cases e
      | _ => cases e
    | _ => cases db <;> cases e⟩
noncomputable def mulD : D → D → Option D
  | .int i, .int j => @ite (Option D) (smallF i ∨ smallF j) (Classical.propDecidable _) (some (.int (i * j))) none
  | .lst xs, .int k => @ite (Option D) (-(2 ^ 63) ≤ k ∧ k < 2 ^ 63 ∧ xs.length * k.toNat ≤ 16777216) (Classical.propDecidable _) (some (.lst (List.replicate k.toNat xs).flatten)) none
  | _, _ => none
theorem DenL.repf {K : PySem.W.Frag} {mg : Str → Option Value} {R : Hp} {v : List V} {d : List D} (h : DenL K mg R v d) : ∀ n : Nat, DenL K mg R (List.replicate n v).flatten (List.replicate n d).flatten
  | 0 => .nil
  | n + 1 => by
    rw [List.replicate_succ, List.replicate_succ, List.flatten_cons, List.flatten_cons]
    exact h.app (DenL.repf h n)
theorem o_mul : O2 X (binaryOp .Mult) (fun x y H Q => (rI CMul fun i j => .int (i * j)) x y H Q ∨ rRep x y H Q) mulD :=
  ⟨opOr op_mul op_rep, fun R H x y a b c Q rh da db e k => by
    cases da with
    | int i =>
      cases db with
      | int j =>
        simp only [mulD] at e
        split at e
        · rename_i hz; cases e; exact .inl ⟨i, j, rfl, rfl, hz, k R H _ (Wd.refl rh) (.int _)⟩
        · cases e
      | _ => cases e
    | @lst a xs ds h1 h2 =>
      cases db with
      | int j =>
        simp only [mulD] at e
        split at e
        · rename_i hz; cases e
          exact .inr ⟨a, j, xs, rfl, rfl, rh _ _ h1, hz.1, hz.2.1, by rw [sizeLine_eq, h2.len]; exact hz.2.2, fun p hp => k _ _ _ (Wd.new rh hp) (.lst upd_same ((h2.repf _).mono (Sb.upd (rh.no hp))))⟩
        · cases e
      | _ => cases e
    | _ => cases db <;> cases e⟩

/-! ### one operand -/
structure U1 (X : Cx) (f : Value → Sem Value) (r : V → Hp → VK → Prop) (g : D → Option D) : Prop where
  op : UnR X f r
  go : ∀ (R H : Hp) (x : V) (a c : D) (Q : VK), Sb R H → Den X.K X.mg R x a → g a = some c → (∀ R' H' v, Wd R H R' H' → Den X.K X.mg R' v c → Q v H') → r x H Q
theorem ee_un {W : WX} {a : Expr} {ta : TE} {fa : PEnv → Rs D} {pos : Pos} {op : UnaryOp} {r : V → Hp → VK → Prop} {g : D → Option D} (ho : U1 X (unaryOp op) r g) (ha : EE X W a ta fa) : EE X W (.UnaryOp op a pos) (tUn r ta) (eX g fa) :=
  ⟨fun tk => pe_un ho.op (ha.pe tk), fun R H σ ρ Q rh s k => ha.go R H σ ρ _ rh s ((After.bind k).imp fun d R1 H1 w1 k1 v dv => by
    cases hc : g d with
    | none => rw [hc] at k1; exact k1.elim
    | some c => rw [hc] at k1; exact ho.go R1 H1 v d c Q w1.rh dv hc fun R' H' z w dz => k1 R' H' w z dz)⟩
def negD : D → Option D | .int i => some (.int (-i)) | _ => none
def invD : D → Option D | .int i => some (.int (Builtin.bitNot i)) | _ => none
theorem u_neg : U1 X (unaryOp .USub) (rU fun i => .int (-i)) negD := ⟨un_neg, fun R H x a c Q rh da e k => by
  cases da with
  | int i => cases e; exact ⟨i, rfl, k R H _ (Wd.refl rh) (.int _)⟩
  | _ => cases e⟩
theorem u_inv : U1 X (unaryOp .Invert) (rU fun i => .int (Builtin.bitNot i)) invD := ⟨un_inv, fun R H x a c Q rh da e k => by
  cases da with
  | int i => cases e; exact ⟨i, rfl, k R H _ (Wd.refl rh) (.int _)⟩
  | _ => cases e⟩

/-! ### == of data, is None -/
mutual
def pyd : D → Option PyData
  | .non => some .none
  | .bl b => some (.bool b)
  | .int i => some (.int i)
  | .str x => some (.str x)
  | .lst xs => (pydL xs).map .list
  | .scl xs => (pydL xs).map .list
  | .tup xs => (pydL xs).map .tuple
  | .dct _ => none
  | .obj _ _ => none
def pydL : List D → Option (List PyData)
  | [] => some []
  | x :: r => match pyd x, pydL r with
    | some a, some b => some (a :: b)
    | _, _ => none
end
mutual
theorem pyd_dp {K : PySem.W.Frag} {mg : Str → Option Value} {R : Hp} : ∀ {v : V} {d : D} {p : PyData}, Den K mg R v d → pyd d = some p → Dp K R v p
  | _, _, _, .non, e => by cases e; exact .non
  | _, _, _, .bl b, e => by cases e; exact .bl b
  | _, _, _, .int i, e => by cases e; exact .int i
  | _, _, _, .str x, e => by cases e; exact .str x
  | _, _, p, .lst (ds := ds) h hs, e => by
    cases hp : pydL ds with
    | none => simp [pyd, hp] at e
    | some ps =>
      simp only [pyd, hp, Option.map_some, Option.some.injEq] at e
      subst e
      exact .lst (.inl (.inl h)) (pyd_dpL hs hp)
  | _, _, p, .scl (ds := ds) h hs, e => by
    cases hp : pydL ds with
    | none => simp [pyd, hp] at e
    | some ps =>
      simp only [pyd, hp, Option.map_some, Option.some.injEq] at e
      subst e
      exact .lst h (pyd_dpL hs hp)
  | _, _, p, .tup (ds := ds) h hs, e => by
    cases hp : pydL ds with
    | none => simp [pyd, hp] at e
    | some ps =>
      simp only [pyd, hp, Option.map_some, Option.some.injEq] at e
      subst e
      exact .tup h (pyd_dpL hs hp)
  | _, _, _, .dct _ _, e => by simp [pyd] at e
  | _, _, _, .obj _ _ _, e => by simp [pyd] at e
theorem pyd_dpL {K : PySem.W.Frag} {mg : Str → Option Value} {R : Hp} : ∀ {v : List V} {d : List D} {p : List PyData}, DenL K mg R v d → pydL d = some p → DpAll K R v p
  | _, _, _, .nil, e => by simp [pydL] at e; subst e; exact .nil
  | _, _, p, .cons (d := d) (ds := ds) h hs, e => by
    cases h1 : pyd d with
    | none => simp [pydL, h1] at e
    | some a =>
      cases h2 : pydL ds with
      | none => simp [pydL, h1, h2] at e
      | some b =>
        simp only [pydL, h1, h2, Option.some.injEq] at e
        subst e
        exact .cons (pyd_dp h h1) (pyd_dpL hs h2)
end
mutual
theorem Dp.mo {K : PySem.W.Frag} {R H : Hp} (e : Sb R H) : ∀ {v : V} {p : PyData}, Dp K R v p → Dp K H v p
  | _, _, .non => .non
  | _, _, .bl b => .bl b
  | _, _, .int i => .int i
  | _, _, .str x => .str x
  | _, _, .lst h hs => .lst (e.l h) (DpAll.mo e hs)
  | _, _, .tup h hs => .tup (e.t h) (DpAll.mo e hs)
theorem DpAll.mo {K : PySem.W.Frag} {R H : Hp} (e : Sb R H) : ∀ {v : List V} {p : List PyData}, DpAll K R v p → DpAll K H v p
  | _, _, .nil => .nil
  | _, _, .cons h hs => .cons (Dp.mo e h) (DpAll.mo e hs)
end
/-- == of data; none where the layer has no rule -/
def eqD (a b : D) : Option Bool := match pyd a, pyd b with
  | some x, some y => if SeqAt.shaped x = true ∧ SeqAt.shaped y = true then some (PyData.eqv x y) else none
  | _, _ => none
def eqDD (a b : D) : Option D := (eqD a b).map .bl
def neDD (a b : D) : Option D := (eqD a b).map fun c => .bl (!c)
theorem eqD_some {a b : D} {c : Bool} (h : eqD a b = some c) : ∃ x y, pyd a = some x ∧ pyd b = some y ∧ SeqAt.shaped x = true ∧ SeqAt.shaped y = true ∧ c = PyData.eqv x y := by
  unfold eqD at h
  split at h
  · rename_i x y h1 h2
    split at h
    · rename_i hs; cases h; exact ⟨x, y, h1, h2, hs.1, hs.2, rfl⟩
    · cases h
  · cases h
theorem o_eq (hu : X.A.units + 64 < cLine) : O2 X (compareOp .Eq) (rEqD X.K) eqDD := ⟨op_eqD hu, fun R H x y a b c Q rh da db e k => by
  unfold eqDD at e
  cases he : eqD a b with
  | none => rw [he] at e; cases e
  | some z =>
    rw [he] at e; cases e
    obtain ⟨p, q, h1, h2, h3, h4, rfl⟩ := eqD_some he
    exact ⟨p, q, Dp.mo rh (pyd_dp da h1), Dp.mo rh (pyd_dp db h2), h3, h4, k R H _ (Wd.refl rh) (.bl _)⟩⟩
theorem o_ne (hu : X.A.units + 64 < cLine) : O2 X (compareOp .NotEq) (rNeD X.K) neDD := ⟨op_neD hu, fun R H x y a b c Q rh da db e k => by
  unfold neDD at e
  cases he : eqD a b with
  | none => rw [he] at e; cases e
  | some z =>
    rw [he] at e; cases e
    obtain ⟨p, q, h1, h2, h3, h4, rfl⟩ := eqD_some he
    exact ⟨p, q, Dp.mo rh (pyd_dp da h1), Dp.mo rh (pyd_dp db h2), h3, h4, k R H _ (Wd.refl rh) (.bl _)⟩⟩
@[simp] theorem eqD_int (i j : Int) : eqD (.int i) (.int j) = some (i == j) := rfl
@[simp] theorem eqD_bl (i j : Bool) : eqD (.bl i) (.bl j) = some (i == j) := rfl
@[simp] theorem eqD_nn : eqD .non .non = some true := rfl
@[simp] theorem eqD_in (i : Int) : eqD (.int i) .non = some false := rfl
@[simp] theorem eqD_ni (i : Int) : eqD .non (.int i) = some false := rfl
def isNone : D → Bool | .non => true | _ => false
def isN : D → D → Option D
  | a, .non => some (.bl (isNone a))
  | _, _ => none
def notN : D → D → Option D
  | a, .non => some (.bl (!isNone a))
  | _, _ => none
theorem den_none {K : PySem.W.Frag} {mg : Str → Option Value} {R : Hp} {v : V} {d : D} (h : Den K mg R v d) : decide (v = .non) = isNone d := by
  cases h <;> rfl
theorem o_is : O2 X (compareOp .Is) (fun x y H Q => y = .non ∧ Q (.bl (decide (x = .non))) H) isN := ⟨op_isN, fun R H x y a b c Q rh da db e k => by
  cases db with
  | non =>
    have e' : some (D.bl (isNone a)) = some c := by cases a <;> exact e
    cases e'; exact ⟨rfl, by rw [den_none da]; exact k R H _ (Wd.refl rh) (.bl _)⟩
  | _ => cases a <;> cases e⟩
theorem o_isnot : O2 X (compareOp .IsNot) (fun x y H Q => y = .non ∧ Q (.bl (!decide (x = .non))) H) notN := ⟨op_notN, fun R H x y a b c Q rh da db e k => by
  cases db with
  | non =>
    have e' : some (D.bl (!isNone a)) = some c := by cases a <;> exact e
    cases e'; exact ⟨rfl, by rw [den_none da]; exact k R H _ (Wd.refl rh) (.bl _)⟩
  | _ => cases a <;> cases e⟩

/-! ### subscripts, slices, in: of what may be an owned list -/
variable {W : WX} {e a b : Expr} {t ta tb : TE} {f fa fb : PEnv → Rs D} {pos p2 : Pos}
/-- a borrowed list, tuple or text is read -/
theorem denx_seq {K : PySem.W.Frag} {mg : Str → Option Value} {R H : Hp} {σ : St} {ρ : PEnv} {v : V} {ds : List D} (rh : Sb R H) (h : DenX K mg R H σ ρ v (.lst ds)) : ∃ p xs, v = .ref p ∧ H p = some (.lst xs) ∧ DenL K mg R xs ds := by
  rcases h with h | ⟨i, p, e1, e2, e3, h | h⟩
  · cases h with
    | lst h1 h2 => exact ⟨_, _, rfl, rh _ _ h1, h2⟩
  · obtain ⟨xs, es, e, h1, h2, h3⟩ := h
    cases e; exact ⟨p, xs, e1, h2, h3⟩
  · obtain ⟨xs, es, e, _⟩ := h; cases e
theorem denx_oth {K : PySem.W.Frag} {mg : Str → Option Value} {R H : Hp} {σ : St} {ρ : PEnv} {v : V} {d : D} (h : DenX K mg R H σ ρ v d) (n1 : ∀ ds, d ≠ .lst ds) (n2 : ∀ ds, d ≠ .dct ds) : Den K mg R v d := by
  rcases h with h | ⟨i, p, e1, e2, e3, h | h⟩
  · exact h
  · obtain ⟨xs, es, e, _⟩ := h; exact absurd e (n1 _)
  · obtain ⟨xs, es, e, _⟩ := h; exact absurd e (n2 _)
def ixD : D → D → Option D
  | .lst ds, .int i => atI ds i
  | .scl ds, .int i => atI ds i
  | .tup ds, .int i => atI ds i
  | .str z, .int i => if z.length ≤ 16777216 then (atI z.cps.toList i).map fun c => .str ⟨#[c]⟩ else none
  | _, _ => none
theorem DenL.atI {K : PySem.W.Frag} {mg : Str → Option Value} {R : Hp} {xs : List V} {ds : List D} {i : Int} {c : D} (h : DenL K mg R xs ds) (e : L2.atI ds i = some c) : ∃ v, L2.atI xs i = some v ∧ Den K mg R v c := by
  unfold L2.atI at e ⊢
  rw [h.len]
  cases hx : ixN ds.length i with
  | none => rw [hx] at e; cases e
  | some j => rw [hx] at e; exact h.get e
theorem ix_go {R H : Hp} {σ : St} {ρ : PEnv} {x y : V} {a b c : D} {Q : VK} (rh : Sb R H) (da : DenX X.K X.mg R H σ ρ x a) (db : Den X.K X.mg R y b) (e : ixD a b = some c) (k : ∀ R' H' v, Wd R H R' H' → Den X.K X.mg R' v c → Q v H') : rIx X.K x y H Q := by
  cases db with
  | int i =>
    cases a with
    | lst ds =>
      obtain ⟨p, xs, rfl, h1, h2⟩ := denx_seq rh da
      obtain ⟨v, h3, h4⟩ := h2.atI e
      exact .inl ⟨p, xs, i, v, rfl, rfl, .inl (.inl h1), h3, k R H v (Wd.refl rh) h4⟩
    | scl ds =>
      cases denx_oth da (fun _ z => nomatch z) (fun _ z => nomatch z) with
      | scl h1 h2 =>
        obtain ⟨v, h3, h4⟩ := h2.atI e
        exact .inl ⟨_, _, i, v, rfl, rfl, rh.l h1, h3, k R H v (Wd.refl rh) h4⟩
    | tup ds =>
      cases denx_oth da (fun _ z => nomatch z) (fun _ z => nomatch z) with
      | tup h1 h2 =>
        obtain ⟨v, h3, h4⟩ := h2.atI e
        exact .inr (.inl ⟨_, _, i, v, rfl, rfl, rh.t h1, h3, k R H v (Wd.refl rh) h4⟩)
    | str z =>
      cases denx_oth da (fun _ z => nomatch z) (fun _ z => nomatch z) with
      | str =>
        simp only [ixD] at e
        split at e
        · rename_i hz
          cases hc : atI z.cps.toList i with
          | none => rw [hc] at e; cases e
          | some ch => rw [hc] at e; cases e; exact .inr (.inr ⟨z, i, ch, rfl, rfl, by rw [sizeLine_eq]; exact hz, hc, k R H _ (Wd.refl rh) (.str _)⟩)
        · cases e
    | _ => cases e
  | _ => cases a <;> cases e
def eIx (g : D → D → Option D) (fa fb : PEnv → Rs D) : PEnv → Rs D := eOp g fa fb
/-- the first operand may be owned: it is read again behind the second one -/
theorem denx_mono {K : PySem.W.Frag} {mg : Str → Option Value} {R H R' H' : Hp} {σ : St} {ρ : PEnv} {v : V} {d : D} (w : Wd R H R' H') (h : DenX K mg R H σ ρ v d) : DenX K mg R' H' σ ρ v d := by
  rcases h with h | ⟨i, p, e1, e2, e3, h⟩
  · exact .inl (h.mono w.rr)
  · refine .inr ⟨i, p, e1, e2, ?_, ?_⟩
    · rcases w.nw p with g | g
      · rcases h with ⟨xs, ds, _, _, q, _⟩ | ⟨xs, ds, _, _, q, _⟩ <;> (rw [g] at q; cases q)
      · rw [g]; exact e3
    · rcases h with ⟨xs, ds, h1, h2, h3, h4⟩ | ⟨xs, ds, h1, h2, h3, h4⟩
      · exact .inl ⟨xs, ds, h1, h2, w.hh _ _ h3, h4.mono w.rr⟩
      · exact .inr ⟨xs, ds, h1, h2, w.hh _ _ h3, h4.mono w.rr⟩
theorem ee_ix (ha : EX X W a ta fa) (hb : EE X W b tb fb) (hs : PlainIx b) : EE X W (.Subscript a b pos) (tOp (rIx X.K) ta tb) (eOp ixD fa fb) :=
  ⟨fun tk => pe_ix ix_seq (ha.pe tk) (hb.pe tk) hs, fun R H σ ρ Q rh s k => ha.go R H σ ρ _ rh s ((After.bind k).imp fun da R1 H1 w1 k1 v dv => by
    refine hb.go R1 H1 σ ρ _ w1.rh (s.mono rh w1) ((After.bind k1).imp fun db R2 H2 w2 k2 u du => ?_)
    cases hc : ixD da db with
    | none => rw [hc] at k2; exact k2.elim
    | some c => rw [hc] at k2; exact ix_go w2.rh (denx_mono w2 dv) du hc fun R' H' z wz dz => k2 R' H' wz z dz)⟩

/-- parts of a slice -/
structure EO (X : Cx) (W : WX) (e : Option Expr) (t : TO) (f : PEnv → Rs (Option Int)) : Prop where
  po : L2N.Takes X W → PO X e t
  go : ∀ (R H : Hp) (σ : St) (ρ : PEnv) (Q : Option Int → Hp → Prop), Sb R H → SlP X.K X.mg R H σ ρ → After X.K X.mg W σ R H (f ρ) (fun d _ H' => Q d H') → t σ H Q
theorem eo_none : EO X W none tNoPart (fun _ => .ok none) := ⟨fun tk => po_none, fun R H σ ρ Q rh s k => After.ok rh k⟩
def toI : D → Rs (Option Int) | .int i => .ok (some i) | _ => .bad
theorem eo_some (h : EE X W e t f) : EO X W (some e) (tPart t) (fun ρ => (f ρ).bind toI) := ⟨fun tk => po_some (h.pe tk), fun R H σ ρ Q rh s k => h.go R H σ ρ _ rh s ((After.bind k).imp fun d R1 H1 w1 k1 v dv => by
  cases dv with
  | int i => exact ⟨i, rfl, After.ok w1.rh k1⟩
  | _ => exact k1.elim)⟩
def cutD (xs : List D) (lo hi : Option Int) : List D := (xs.drop (HT.sIx xs.length 0 lo)).take (HT.sIx xs.length xs.length hi - HT.sIx xs.length 0 lo)
theorem DenL.cut {K : PySem.W.Frag} {mg : Str → Option Value} {R : Hp} {xs : List V} {ds : List D} (h : DenL K mg R xs ds) (lo hi : Option Int) : DenL K mg R (cutV xs lo hi) (cutD ds lo hi) := by
  unfold cutV cutD; rw [h.len]; exact (h.drop _).take _
def slD : D → Option Int → Option Int → Option D
  | .lst ds, lo, hi => some (.lst (cutD ds lo hi))
  | .scl ds, lo, hi => some (.lst (cutD ds lo hi))
  | .tup ds, lo, hi => some (.tup (cutD ds lo hi))
  | .str z, lo, hi => if z.length ≤ 16777216 then some (.str (cutS z lo hi)) else none
  | _, _, _ => none
abbrev rSlX (K : PySem.W.Frag) : V → Option Int → Option Int → Hp → VK → Prop := fun x lo hi H Q => rSlL K x lo hi H Q ∨ rSlA K x lo hi H Q ∨ rSlS x lo hi H Q
theorem cut_all {ds : List D} {lo hi : Option Int} {n : Nat} (hn : n = ds.length) (h1 : HT.sIx n 0 lo = 0) (h2 : HT.sIx n n hi = n) : cutD ds lo hi = ds := by
  subst hn; unfold cutD; rw [h1, h2]; simp
theorem sl_go {R H : Hp} {σ : St} {ρ : PEnv} {x : V} {a c : D} {lo hi : Option Int} {Q : VK} (rh : Sb R H) (da : DenX X.K X.mg R H σ ρ x a) (e : slD a lo hi = some c) (k : ∀ R' H' v, Wd R H R' H' → Den X.K X.mg R' v c → Q v H') : rSlX X.K x lo hi H Q := by
  cases a with
  | lst ds =>
    obtain ⟨p, xs, rfl, h1, h2⟩ := denx_seq rh da
    cases e
    exact .inl ⟨p, xs, rfl, .inl (.inl h1), fun q hq => k _ _ _ (Wd.new rh hq) (.lst upd_same ((h2.cut lo hi).mono (Sb.upd (rh.no hq))))⟩
  | scl ds =>
    cases e
    cases denx_oth da (fun _ z => nomatch z) (fun _ z => nomatch z) with
    | scl h1 h2 => exact .inl ⟨_, _, rfl, rh.l h1, fun q hq => k _ _ _ (Wd.new rh hq) (.lst upd_same ((h2.cut lo hi).mono (Sb.upd (rh.no hq))))⟩
  | tup ds =>
    cases e
    cases denx_oth da (fun _ z => nomatch z) (fun _ z => nomatch z) with
    | tup h1 h2 =>
      refine .inr (.inl ⟨_, _, rfl, rh.t h1, fun hw => ?_, fun hw q hq => k _ _ _ (Wd.new rh hq) (.tup (.inl (.inl upd_same)) ((h2.cut lo hi).mono (Sb.upd (rh.no hq))))⟩)
      rw [cut_all h2.len hw.1 hw.2] at k
      exact k R H _ (Wd.refl rh) (.tup h1 h2)
  | str z =>
    cases denx_oth da (fun _ z => nomatch z) (fun _ z => nomatch z) with
    | str =>
      simp only [slD] at e
      split at e
      · rename_i hz; cases e; exact .inr (.inr ⟨z, rfl, by rw [sizeLine_eq]; exact hz, k R H _ (Wd.refl rh) (.str _)⟩)
      · cases e
  | _ => cases e
def eSl (fa : PEnv → Rs D) (fl fh : PEnv → Rs (Option Int)) : PEnv → Rs D := fun ρ => (fa ρ).bind fun x => (fl ρ).bind fun l => (fh ρ).bind fun h => ofO (slD x l h)
theorem ee_slice {lo hi : Option Expr} {tl th : TO} {fl fh : PEnv → Rs (Option Int)} (ha : EX X W a ta fa) (hl : EO X W lo tl fl) (hh : EO X W hi th fh) : EE X W (.Subscript a (.Slice lo hi none p2) pos) (tSl (rSlX X.K) ta tl th) (eSl fa fl fh) :=
  ⟨fun tk => pe_slice (sl_list.or (sl_tupA.or sl_str)) (ha.pe tk) (hl.po tk) (hh.po tk), fun R H σ ρ Q rh s k => ha.go R H σ ρ _ rh s ((After.bind k).imp fun da R1 H1 w1 k1 v dv =>
    hl.go R1 H1 σ ρ _ w1.rh (s.mono rh w1) ((After.bind k1).imp fun l R2 H2 w2 k2 =>
      hh.go R2 H2 σ ρ _ w2.rh (s.mono rh (w1.tr w2)) ((After.bind k2).imp fun h R3 H3 w3 k3 => by
        cases hc : slD da l h with
        | none => rw [hc] at k3; exact k3.elim
        | some c => rw [hc] at k3; exact sl_go w3.rh (denx_mono w3 (denx_mono w2 dv)) hc fun R' H' z wz dz => k3 R' H' wz z dz)))⟩

def flD : D → Bool | .non => true | .bl _ => true | .int _ => true | .str _ => true | _ => false
def eqF : D → D → Bool
  | .non, .non => true
  | .bl a, .bl b => a == b
  | .bl a, .int b => (if a then 1 else 0) == b
  | .int a, .bl b => a == (if b then 1 else 0)
  | .int a, .int b => a == b
  | .str a, .str b => a == b
  | _, _ => false
theorem den_fl {K : PySem.W.Frag} {mg : Str → Option Value} {R : Hp} {v : V} {d : D} (h : Den K mg R v d) : flatV v = flD d := by cases h <;> rfl
theorem den_eqF {K : PySem.W.Frag} {mg : Str → Option Value} {R : Hp} {v u : V} {d c : D} (h : Den K mg R v d) (g : Den K mg R u c) : eqV v u = eqF d c := by cases h <;> cases g <;> rfl
theorem denl_fl {K : PySem.W.Frag} {mg : Str → Option Value} {R : Hp} : ∀ {v : List V} {d : List D}, DenL K mg R v d → v.all flatV = d.all flD
  | _, _, .nil => rfl
  | _, _, .cons h hs => by rw [List.all_cons, List.all_cons, den_fl h, denl_fl hs]
def inL (x : D) (xs : List D) : Bool := xs.any fun y => eqF y x
theorem denl_in {K : PySem.W.Frag} {mg : Str → Option Value} {R : Hp} {x : V} {c : D} (g : Den K mg R x c) : ∀ {v : List V} {d : List D}, DenL K mg R v d → inV x v = inL c d
  | _, _, .nil => rfl
  | _, _, .cons h hs => by
    have := denl_in g hs
    unfold inV inL at this ⊢
    rw [List.any_cons, List.any_cons, den_eqF h g, this]
def inD (neg : Bool) (x : D) : D → Option D
  | .lst ds => if flD x = true ∧ ds.all flD = true then some (.bl (if neg then !inL x ds else inL x ds)) else none
  | .scl ds => if flD x = true ∧ ds.all flD = true then some (.bl (if neg then !inL x ds else inL x ds)) else none
  | .tup ds => if flD x = true ∧ ds.all flD = true then some (.bl (if neg then !inL x ds else inL x ds)) else none
  | _ => none
theorem in_go {neg : Bool} {R H : Hp} {σ : St} {ρ : PEnv} {x y : V} {a b c : D} {Q : VK} (rh : Sb R H) (da : Den X.K X.mg R x a) (db : DenX X.K X.mg R H σ ρ y b) (e : inD neg a b = some c) (k : ∀ R' H' v, Wd R H R' H' → Den X.K X.mg R' v c → Q v H') : rIn X.K neg x y H Q := by
  cases b with
  | lst ds =>
    obtain ⟨p, xs, rfl, h1, h2⟩ := denx_seq rh db
    simp only [inD] at e
    split at e
    · rename_i hz; cases e
      exact ⟨p, xs, rfl, .inl (.inl (.inl h1)), by rw [den_fl da]; exact hz.1, by rw [denl_fl h2]; exact hz.2, by rw [denl_in da h2]; exact k R H _ (Wd.refl rh) (.bl _)⟩
    · cases e
  | scl ds =>
    cases denx_oth db (fun _ z => nomatch z) (fun _ z => nomatch z) with
    | scl h1 h2 =>
      simp only [inD] at e
      split at e
      · rename_i hz; cases e
        exact ⟨_, _, rfl, .inl (rh.l h1), by rw [den_fl da]; exact hz.1, by rw [denl_fl h2]; exact hz.2, by rw [denl_in da h2]; exact k R H _ (Wd.refl rh) (.bl _)⟩
      · cases e
  | tup ds =>
    cases denx_oth db (fun _ z => nomatch z) (fun _ z => nomatch z) with
    | tup h1 h2 =>
      simp only [inD] at e
      split at e
      · rename_i hz; cases e
        exact ⟨_, _, rfl, .inr (rh.t h1), by rw [den_fl da]; exact hz.1, by rw [denl_fl h2]; exact hz.2, by rw [denl_in da h2]; exact k R H _ (Wd.refl rh) (.bl _)⟩
      · cases e
  | _ => cases e
theorem in_goA {neg : Bool} (ha : EE X W a ta fa) (hb : EX X W b tb fb) (R H : Hp) (σ : St) (ρ : PEnv) (Q : VK) (rh : Sb R H) (s : SlP X.K X.mg R H σ ρ) (k : After X.K X.mg W σ R H (eOp (inD neg) fa fb ρ) (fun d R' H' => ∀ v, Den X.K X.mg R' v d → Q v H')) : tOp (rIn X.K neg) ta tb σ H Q :=
  ha.go R H σ ρ _ rh s ((After.bind k).imp fun da R1 H1 w1 k1 v dv => hb.go R1 H1 σ ρ _ w1.rh (s.mono rh w1) ((After.bind k1).imp fun db R2 H2 w2 k2 u du => by
    cases hc : inD neg da db with
    | none => rw [hc] at k2; exact k2.elim
    | some c => rw [hc] at k2; exact in_go w2.rh (dv.mono w2.rr) du hc fun R' H' z wz dz => k2 R' H' wz z dz))
theorem ee_in (ha : EE X W a ta fa) (hb : EX X W b tb fb) (hm : behindInMarks .In b = false) : EE X W (.Compare a [.In] [b] pos) (tOp (rIn X.K false) ta tb) (eOp (inD false) fa fb) := ⟨fun tk => pe_cmpR op_in_seq (ha.pe tk) (hb.pe tk) hm, in_goA ha hb⟩
theorem ee_notIn (ha : EE X W a ta fa) (hb : EX X W b tb fb) (hm : behindInMarks .NotIn b = false) : EE X W (.Compare a [.NotIn] [b] pos) (tOp (rIn X.K true) ta tb) (eOp (inD true) fa fb) := ⟨fun tk => pe_cmpR op_notIn_seq (ha.pe tk) (hb.pe tk) hm, in_goA ha hb⟩
theorem et_in (ha : EE X W a ta fa) (hb : EX X W b tb fb) (hm : behindInMarks .In b = false) : ET X W (.Compare a [.In] [b] pos) (tTest (tOp (rIn X.K false) ta tb)) (fun ρ => tst (eOp (inD false) fa fb ρ)) :=
  ⟨fun tk => pt_cmpR op_in_seq (ha.pe tk) (hb.pe tk) hm, fun R H σ ρ Q rh s k => in_goA ha hb R H σ ρ _ rh s (After.tst k)⟩
theorem et_notIn (ha : EE X W a ta fa) (hb : EX X W b tb fb) (hm : behindInMarks .NotIn b = false) : ET X W (.Compare a [.NotIn] [b] pos) (tTest (tOp (rIn X.K true) ta tb)) (fun ρ => tst (eOp (inD true) fa fb ρ)) :=
  ⟨fun tk => pt_cmpR op_notIn_seq (ha.pe tk) (hb.pe tk) hm, fun R H σ ρ Q rh s k => in_goA ha hb R H σ ρ _ rh s (After.tst k)⟩
/-- a < b < c -/
def eChain (g h : D → D → Option D) (fa fb fc : PEnv → Rs D) : PEnv → Rs D := fun ρ => (fa ρ).bind fun x => (fb ρ).bind fun y => (tst (ofO (g x y))).bind fun c => if c = true then (fc ρ).bind fun z => ofO (h y z) else .ok (.bl false)

/-! ### built-ins -/
def lenD : D → Option D
  | .lst ds => some (.int ds.length)
  | .scl ds => some (.int ds.length)
  | .tup ds => some (.int ds.length)
  | .str z => if z.length ≤ 16777216 then some (.int z.length) else none
  | _ => none
theorem b_len : O1x X (.builtin "len") (fun xs H Q => ∃ x n, xs = [x] ∧ LenV X.K x H n ∧ Q (.int n) H) lenD := ⟨call_len, fun R H σ ρ v d c Q rh dx e k => by
  cases d with
  | lst ds =>
    obtain ⟨p, xs, rfl, h1, h2⟩ := denx_seq rh dx
    cases e
    exact ⟨_, ds.length, rfl, .inl ⟨xs, .inl (.inl h1), h2.len.symm⟩, k R H _ (Wd.refl rh) (.int _)⟩
  | scl ds =>
    cases e
    cases denx_oth dx (fun _ z => nomatch z) (fun _ z => nomatch z) with
    | scl h1 h2 => exact ⟨_, ds.length, rfl, .inl ⟨_, rh.l h1, h2.len.symm⟩, k R H _ (Wd.refl rh) (.int _)⟩
  | tup ds =>
    cases e
    cases denx_oth dx (fun _ z => nomatch z) (fun _ z => nomatch z) with
    | tup h1 h2 => exact ⟨_, ds.length, rfl, .inr ⟨_, rh.t h1, h2.len.symm⟩, k R H _ (Wd.refl rh) (.int _)⟩
  | str z =>
    cases denx_oth dx (fun _ z => nomatch z) (fun _ z => nomatch z) with
    | str =>
      simp only [lenD] at e
      split at e
      · rename_i hz; cases e; exact ⟨_, z.length, rfl, ⟨by rw [sizeLine_eq]; exact hz, rfl⟩, k R H _ (Wd.refl rh) (.int _)⟩
      · cases e
  | _ => cases e⟩
/-- tuple(x) -/
def tupleD : D → Option D
  | .lst ds => some (.tup ds)
  | .scl ds => some (.tup ds)
  | .tup ds => some (.tup ds)
  | _ => none
theorem b_tuple : O1x X (.type "tuple") (fun xs H Q => ∃ p ys, xs = [.ref p] ∧ ((SqL X.K H p ys ∧ ∀ l, H l = none → Q (.ref l) (upd H l (.tup ys))) ∨ (SqT X.K H p ys ∧ Q (.ref p) H))) tupleD := ⟨call_tuple_of, fun R H σ ρ v d c Q rh dx e k => by
  cases d with
  | lst ds =>
    obtain ⟨p, xs, rfl, h1, h2⟩ := denx_seq rh dx
    cases e
    exact ⟨p, xs, rfl, .inl ⟨.inl (.inl h1), fun q hq => k _ _ _ (Wd.new rh hq) (.tup (.inl (.inl upd_same)) (h2.mono (Sb.upd (rh.no hq))))⟩⟩
  | scl ds =>
    cases e
    cases denx_oth dx (fun _ z => nomatch z) (fun _ z => nomatch z) with
    | scl h1 h2 => exact ⟨_, _, rfl, .inl ⟨rh.l h1, fun q hq => k _ _ _ (Wd.new rh hq) (.tup (.inl (.inl upd_same)) (h2.mono (Sb.upd (rh.no hq))))⟩⟩
  | tup ds =>
    cases e
    cases denx_oth dx (fun _ z => nomatch z) (fun _ z => nomatch z) with
    | tup h1 h2 => exact ⟨_, _, rfl, .inr ⟨rh.t h1, k R H _ (Wd.refl rh) (.tup h1 h2)⟩⟩
  | _ => cases e⟩
/-- list(x): a new list -/
def listD : D → Option (List D)
  | .lst ds => some ds
  | .scl ds => some ds
  | .tup ds => some ds
  | _ => none
def eLi (f : PEnv → Rs D) : PEnv → Rs (List D) := fun ρ => (f ρ).bind fun d => ofO (listD d)
theorem en_list {x : Str} {p : Pos} (hg : Gl X x) (hm : X.mg x = none) (hv : bootBuiltins x = some (.type "list")) (h : EX X W e t f) (hn : x ≠ "__name__" := by decide) (hdb : (x == ("__debug__" : Str)) = false := by decide)
    (he : starEach [e] X.env = [(false, eval e X.env)] := by rfl) (hpl : (backTo pos (starEach [] X.env)).any (·.1) = false := by rfl) :
    EN X W (.Call (.Name x p) [e] [] pos) (tCB (fun xs H Q => ∃ p ys, xs = [.ref p] ∧ (SqL X.K H p ys ∨ SqT X.K H p ys) ∧ ∀ l, H l = none → Q (.ref l) (upd H l (.lst ys))) (tCons t tNil)) (eLi f) :=
  ⟨fun tk => pe_callTy call_list_of hg hm hv (ex_pa (h.pe tk) he) hn hdb he hpl, fun R H σ ρ Q rh s k => h.go R H σ ρ _ rh s ((After.bind k).imp fun d R1 H1 w1 k1 v dx => by
    have fin : ∀ (ys : List V) (ds : List D), listD d = some ds → DenL X.K X.mg R1 ys ds → ∀ l, H1 l = none → Q (.ref l) (upd H1 l (.lst ys)) := fun ys ds e dl l hl => by
      rw [e] at k1
      exact k1 R1 _ (Wd.out w1.rh hl) l ys (w1.hh.no hl) (w1.rh.no hl) upd_same dl
    cases d with
    | lst ds =>
      obtain ⟨p, xs, rfl, h1, h2⟩ := denx_seq w1.rh dx
      exact ⟨p, xs, rfl, .inl (.inl (.inl h1)), fin xs ds rfl h2⟩
    | scl ds =>
      cases denx_oth dx (fun _ z => nomatch z) (fun _ z => nomatch z) with
      | scl h1 h2 => exact ⟨_, _, rfl, .inl (w1.rh.l h1), fin _ ds rfl h2⟩
    | tup ds =>
      cases denx_oth dx (fun _ z => nomatch z) (fun _ z => nomatch z) with
      | tup h1 h2 => exact ⟨_, _, rfl, .inr (w1.rh.t h1), fin _ ds rfl h2⟩
    | _ => exact k1.elim)⟩
def intsOf : List D → Option (List Int)
  | [] => some []
  | .int i :: r => (intsOf r).map (i :: ·)
  | _ => none
@[simp] theorem intsOf_map (ns : List Int) : intsOf (ns.map D.int) = some ns := by
  induction ns with
  | nil => rfl
  | cons n r ih => simp [intsOf, ih]
theorem denl_ints {K : PySem.W.Frag} {mg : Str → Option Value} {R : Hp} : ∀ {v : List V} {d : List D} {ns : List Int}, DenL K mg R v d → intsOf d = some ns → v = ns.map V.int
  | _, _, ns, .nil, e => by cases e; rfl
  | _, _, ns, .cons (d := .int i) (ds := ds) h hs, e => by
    cases hp : intsOf ds with
    | none => simp [intsOf, hp] at e
    | some ms =>
      simp only [intsOf, hp, Option.map_some, Option.some.injEq] at e
      subst e
      cases h
      rw [denl_ints hs hp]; rfl
  | _, _, ns, .cons (d := .non) h hs, e => by cases e
  | _, _, ns, .cons (d := .bl _) h hs, e => by cases e
  | _, _, ns, .cons (d := .str _) h hs, e => by cases e
  | _, _, ns, .cons (d := .lst _) h hs, e => by cases e
  | _, _, ns, .cons (d := .scl _) h hs, e => by cases e
  | _, _, ns, .cons (d := .tup _) h hs, e => by cases e
  | _, _, ns, .cons (d := .dct _) h hs, e => by cases e
  | _, _, ns, .cons (d := .obj _ _) h hs, e => by cases e
def boolsOf : List D → Option (List Bool)
  | [] => some []
  | .bl i :: r => (boolsOf r).map (i :: ·)
  | _ => none
@[simp] theorem boolsOf_map (ns : List Bool) : boolsOf (ns.map D.bl) = some ns := by
  induction ns with
  | nil => rfl
  | cons n r ih => simp [boolsOf, ih]
theorem denl_bools {K : PySem.W.Frag} {mg : Str → Option Value} {R : Hp} : ∀ {v : List V} {d : List D} {ns : List Bool}, DenL K mg R v d → boolsOf d = some ns → v = ns.map V.bl
  | _, _, ns, .nil, e => by cases e; rfl
  | _, _, ns, .cons (d := .bl i) (ds := ds) h hs, e => by
    cases hp : boolsOf ds with
    | none => simp [boolsOf, hp] at e
    | some ms =>
      simp only [boolsOf, hp, Option.map_some, Option.some.injEq] at e
      subst e
      cases h
      rw [denl_bools hs hp]; rfl
  | _, _, ns, .cons (d := .non) h hs, e => by cases e
  | _, _, ns, .cons (d := .int _) h hs, e => by cases e
  | _, _, ns, .cons (d := .str _) h hs, e => by cases e
  | _, _, ns, .cons (d := .lst _) h hs, e => by cases e
  | _, _, ns, .cons (d := .scl _) h hs, e => by cases e
  | _, _, ns, .cons (d := .tup _) h hs, e => by cases e
  | _, _, ns, .cons (d := .dct _) h hs, e => by cases e
  | _, _, ns, .cons (d := .obj _ _) h hs, e => by cases e
/-- what a list's items are, as a Python list that sum, max .. walk -/
theorem denx_list {K : PySem.W.Frag} {mg : Str → Option Value} {R H : Hp} {σ : St} {ρ : PEnv} {v : V} {d : D} {ds : List D} (rh : Sb R H) (h : DenX K mg R H σ ρ v d) (hd : d = .lst ds ∨ d = .scl ds) : ∃ p xs, v = .ref p ∧ SqL K H p xs ∧ DenL K mg R xs ds := by
  rcases hd with rfl | rfl
  · obtain ⟨p, xs, h1, h2, h3⟩ := denx_seq rh h
    exact ⟨p, xs, h1, .inl (.inl h2), h3⟩
  · cases denx_oth h (fun _ z => nomatch z) (fun _ z => nomatch z) with
    | scl h1 h2 => exact ⟨_, _, rfl, rh.l h1, h2⟩
def sumD : D → Option D
  | .lst ds => (intsOf ds).map fun ns => .int ns.sum
  | .scl ds => (intsOf ds).map fun ns => .int ns.sum
  | _ => none
theorem b_sum (hc : X.calm = true) : O1x X (.builtin "sum") (rSum X.K) sumD := ⟨cr_sum hc, fun R H σ ρ v d c Q rh dx e k => by
  obtain ⟨ds, hd, ns, hn, rfl⟩ : ∃ ds, (d = .lst ds ∨ d = .scl ds) ∧ ∃ ns, intsOf ds = some ns ∧ c = .int ns.sum := by
    cases d with
    | lst ds => simp only [sumD] at e; cases hi : intsOf ds with
      | none => rw [hi] at e; cases e
      | some ns => rw [hi] at e; cases e; exact ⟨ds, .inl rfl, ns, hi, rfl⟩
    | scl ds => simp only [sumD] at e; cases hi : intsOf ds with
      | none => rw [hi] at e; cases e
      | some ns => rw [hi] at e; cases e; exact ⟨ds, .inr rfl, ns, hi, rfl⟩
    | _ => cases e
  obtain ⟨p, xs, rfl, h1, h2⟩ := denx_list rh dx hd
  have := denl_ints h2 hn
  subst this
  exact ⟨p, ns, rfl, h1, k R H _ (Wd.refl rh) (.int _)⟩⟩
def allD : D → Option D
  | .lst ds => (boolsOf ds).map fun ns => .bl (ns.all id)
  | .scl ds => (boolsOf ds).map fun ns => .bl (ns.all id)
  | _ => none
theorem b_all (hc : X.calm = true) : O1x X (.builtin "all") (rAll X.K) allD := ⟨cr_all hc, fun R H σ ρ v d c Q rh dx e k => by
  obtain ⟨ds, hd, ns, hn, rfl⟩ : ∃ ds, (d = .lst ds ∨ d = .scl ds) ∧ ∃ ns, boolsOf ds = some ns ∧ c = .bl (ns.all id) := by
    cases d with
    | lst ds => simp only [allD] at e; cases hi : boolsOf ds with
      | none => rw [hi] at e; cases e
      | some ns => rw [hi] at e; cases e; exact ⟨ds, .inl rfl, ns, hi, rfl⟩
    | scl ds => simp only [allD] at e; cases hi : boolsOf ds with
      | none => rw [hi] at e; cases e
      | some ns => rw [hi] at e; cases e; exact ⟨ds, .inr rfl, ns, hi, rfl⟩
    | _ => cases e
  obtain ⟨p, xs, rfl, h1, h2⟩ := denx_list rh dx hd
  have := denl_bools h2 hn
  subst this
  exact ⟨p, ns, rfl, h1, k R H _ (Wd.refl rh) (.bl _)⟩⟩
def anyD : D → Option D
  | .lst ds => (boolsOf ds).map fun ns => .bl (ns.any id)
  | .scl ds => (boolsOf ds).map fun ns => .bl (ns.any id)
  | _ => none
theorem b_any (hc : X.calm = true) : O1x X (.builtin "any") (rAny X.K) anyD := ⟨cr_any hc, fun R H σ ρ v d c Q rh dx e k => by
  obtain ⟨ds, hd, ns, hn, rfl⟩ : ∃ ds, (d = .lst ds ∨ d = .scl ds) ∧ ∃ ns, boolsOf ds = some ns ∧ c = .bl (ns.any id) := by
    cases d with
    | lst ds => simp only [anyD] at e; cases hi : boolsOf ds with
      | none => rw [hi] at e; cases e
      | some ns => rw [hi] at e; cases e; exact ⟨ds, .inl rfl, ns, hi, rfl⟩
    | scl ds => simp only [anyD] at e; cases hi : boolsOf ds with
      | none => rw [hi] at e; cases e
      | some ns => rw [hi] at e; cases e; exact ⟨ds, .inr rfl, ns, hi, rfl⟩
    | _ => cases e
  obtain ⟨p, xs, rfl, h1, h2⟩ := denx_list rh dx hd
  have := denl_bools h2 hn
  subst this
  exact ⟨p, ns, rfl, h1, k R H _ (Wd.refl rh) (.bl _)⟩⟩
/-- max(m, n), min(m, n) -/
def max2D : List D → Option D | [.int i, .int j] => some (.int (if j > i then j else i)) | _ => none
def min2D : List D → Option D | [.int i, .int j] => some (.int (if j < i then j else i)) | _ => none
theorem denl2 {K : PySem.W.Frag} {mg : Str → Option Value} {R : Hp} {v : List V} {i j : Int} (h : DenL K mg R v [.int i, .int j]) : v = [.int i, .int j] := by
  cases h with
  | cons h1 h => cases h1; cases h with
    | cons h1 h => cases h1; cases h; rfl
theorem b_max2 (hc : X.calm = true) : O1 X (.builtin "max") (fun xs H Q => ∃ i j, xs = [.int i, .int j] ∧ Q (.int (if j > i then j else i)) H) max2D := ⟨call_max2 hc, fun R H vs ds c Q rh dl e k => by
  unfold max2D at e
  split at e
  · rename_i i j; cases e; exact ⟨i, j, denl2 dl, k R H _ (Wd.refl rh) (.int _)⟩
  · cases e⟩
theorem b_min2 (hc : X.calm = true) : O1 X (.builtin "min") (fun xs H Q => ∃ i j, xs = [.int i, .int j] ∧ Q (.int (if j < i then j else i)) H) min2D := ⟨call_min2 hc, fun R H vs ds c Q rh dl e k => by
  unfold min2D at e
  split at e
  · rename_i i j; cases e; exact ⟨i, j, denl2 dl, k R H _ (Wd.refl rh) (.int _)⟩
  · cases e⟩
def intD : List D → Option D | [.int i] => some (.int i) | [.bl b] => some (.int (if b then 1 else 0)) | _ => none
theorem b_int : O1 X (.type "int") (fun xs H Q => (∃ i, xs = [.int i] ∧ Q (.int i) H) ∨ ∃ k, xs = [.bl k] ∧ Q (.int (if k then 1 else 0)) H) intD := ⟨call_int1, fun R H vs ds c Q rh dl e k => by
  unfold intD at e
  split at e
  · rename_i i; cases e; cases dl with
    | cons h1 h => cases h1; cases h; exact .inl ⟨i, rfl, k R H _ (Wd.refl rh) (.int _)⟩
  · rename_i b; cases e; cases dl with
    | cons h1 h => cases h1; cases h; exact .inr ⟨b, rfl, k R H _ (Wd.refl rh) (.int _)⟩
  · cases e⟩

/-! isinstance of data against built-in types -/
def tagD : D → Option String
  | .non => some "NoneType" | .bl _ => some "bool" | .int _ => some "int" | .str _ => some "str"
  | .lst _ => some "list" | .scl _ => some "list" | .tup _ => some "tuple" | .dct _ => some "dict" | .obj _ _ => none
theorem den_ty {K : PySem.W.Frag} {mg : Str → Option Value} {R H : Hp} (rh : Sb R H) {v : V} {d : D} {T : String} (h : Den K mg R v d) (e : tagD d = some T) : TyX K H v (.type T) := by
  cases h with
  | non => cases e; exact .base .non
  | bl => cases e; exact .base (.bl _)
  | int => cases e; exact .base (.int _)
  | str => cases e; exact .base (.str _)
  | lst h1 h2 => cases e; exact .base (.lst (rh _ _ h1))
  | scl h1 h2 =>
    cases e
    rcases rh.l h1 with (h | ⟨o, h⟩) | ⟨o, its, n, h, hc, _⟩
    · exact .base (.lst h)
    · exact .base (.frz h)
    · exact .kList h hc
  | tup h1 h2 =>
    cases e
    rcases rh.t h1 with (h | ⟨o, h⟩) | ⟨o, its, n, h, hc, _⟩
    · exact .base (.tup h)
    · exact .fTuple h
    · exact .kTuple h hc
  | dct h1 h2 => cases e; exact .base (.dK (rh _ _ h1))
  | obj => cases e
theorem denx_ty {K : PySem.W.Frag} {mg : Str → Option Value} {R H : Hp} {σ : St} {ρ : PEnv} (rh : Sb R H) {v : V} {d : D} {T : String} (h : DenX K mg R H σ ρ v d) (e : tagD d = some T) : TyX K H v (.type T) := by
  rcases h with h | ⟨i, p, e1, e2, e3, h | h⟩
  · exact den_ty rh h e
  · obtain ⟨xs, ds, rfl, _, h2, _⟩ := h; cases e; subst e1; exact .base (.lst h2)
  · obtain ⟨xs, ds, rfl, _, h2, _⟩ := h; cases e; subst e1; exact .base (.dK h2)
/-- the answer for one built-in type: bool counts as int -/
def isT (T c : String) : Bool := T == c || (T == "bool" && c == "int")
def isiD (cs : List String) (d : D) : Option D := (tagD d).map fun T => .bl (cs.any (isT T))
def okC (c : String) : Prop := c = "int" ∨ c = "bool" ∨ c = "str" ∨ c = "list" ∨ c = "tuple"
theorem kit_is {K : PySem.W.Frag} {d : D} {T c : String} (e : tagD d = some T) (hc : okC c) : PySem.W.kitOne K (.type T) (.type c) = some (isT T c) := by
  have hT : T = "NoneType" ∨ T = "bool" ∨ T = "int" ∨ T = "str" ∨ T = "list" ∨ T = "tuple" ∨ T = "dict" := by
    cases d <;> cases e <;> simp
  rcases hT with rfl | rfl | rfl | rfl | rfl | rfl | rfl <;> rcases hc with rfl | rfl | rfl | rfl | rfl <;> exact kit_ty (by decide +kernel)
theorem kit_any {K : PySem.W.Frag} {d : D} {T : String} (e : tagD d = some T) : ∀ cs : List String, (∀ c ∈ cs, okC c) → PySem.W.kitAny K (.type T) (cs.map Value.type) = some (cs.any (isT T))
  | [], _ => rfl
  | c :: cs, h => by
    have ih := kit_any (K := K) e cs fun x hx => h x (List.mem_cons_of_mem _ hx)
    rw [List.map_cons, List.any_cons]
    refine kitAny_cons (kit_is e (h c List.mem_cons_self)) (fun z => by rw [ih, z, Bool.false_or]) fun z => by rw [z, Bool.true_or]
theorem paired_ty : ∀ cs : List String, Paired ClsV (cs.map V.ty) (cs.map Value.type)
  | [] => .nil
  | c :: cs => .cons (.ty c) (paired_ty cs)
/-- isinstance(e, T) -/
theorem ee_isi {c : String} {y : Str} {p q : Pos} (hg : Gl X "isinstance") (hm : X.mg "isinstance" = none) (hgy : Gl X y) (hmy : X.mg y = none) (hvy : bootBuiltins y = some (.type c)) (hc : okC c) (h : EX X W e t f)
    (hny : y ≠ "__name__" := by decide) (hdy : (y == ("__debug__" : Str)) = false := by decide)
    (he : starEach [e, .Name y q] X.env = (false, eval e X.env) :: starEach [.Name y q] X.env := by rfl) (he2 : starEach [.Name y q] X.env = [(false, eval (.Name y q) X.env)] := by rfl) (hpl : (backTo pos (starEach [.Name y q] X.env)).any (·.1) = false := by rfl) :
    EE X W (.Call (.Name "isinstance" p) [e, .Name y q] [] pos) (tCB (rIsi X.K) (tCons t (tCons (tC (.ty c)) tNil))) (eX (isiD [c]) f) :=
  ⟨fun tk => pe_callB call_isi hg hm PyProof.Rows.boot_isinstance (pa_cons (h.pe tk) (pa_cons (pe_bltn hgy hmy hvy rfl hny hdy) pa_nil he2) he) (by decide) (by decide) he hpl, fun R H σ ρ Q rh s k => h.go R H σ ρ _ rh s ((After.bind k).imp fun d R1 H1 w1 k1 v dx => by
    cases hT : tagD d with
    | none => simp only [isiD, hT] at k1; exact k1.elim
    | some T =>
      simp only [isiD, hT] at k1
      refine ⟨v, .ty c, .type T, .type c, isT T c, rfl, .ty c, denx_ty w1.rh dx hT, kit_is hT hc, ?_⟩
      have k2 := (After.ok w1.rh k1) (.bl ([c].any (isT T))) (.bl _)
      simpa using k2)⟩
/-- isinstance(e, (T1, T2)) -/
theorem ee_isi2 {c1 c2 : String} {y1 y2 : Str} {p q1 q2 q3 : Pos} {x1 : Nat} (hg : Gl X "isinstance") (hm : X.mg "isinstance" = none) (hgy1 : Gl X y1) (hmy1 : X.mg y1 = none) (hvy1 : bootBuiltins y1 = some (.type c1)) (hgy2 : Gl X y2) (hmy2 : X.mg y2 = none) (hvy2 : bootBuiltins y2 = some (.type c2)) (hc1 : okC c1) (hc2 : okC c2) (h : EX X W e t f)
    (hny1 : y1 ≠ "__name__" := by decide) (hdy1 : (y1 == ("__debug__" : Str)) = false := by decide) (hny2 : y2 ≠ "__name__" := by decide) (hdy2 : (y2 == ("__debug__" : Str)) = false := by decide)
    (he : starEach [e, .Tuple [.Name y1 q1, .Name y2 q2] x1 q3] X.env = (false, eval e X.env) :: starEach [.Tuple [.Name y1 q1, .Name y2 q2] x1 q3] X.env := by rfl) (he2 : starEach [.Tuple [.Name y1 q1, .Name y2 q2] x1 q3] X.env = [(false, eval (.Tuple [.Name y1 q1, .Name y2 q2] x1 q3) X.env)] := by rfl)
    (he3 : starEach [.Name y1 q1, .Name y2 q2] X.env = (false, eval (.Name y1 q1) X.env) :: starEach [.Name y2 q2] X.env := by rfl) (he4 : starEach [.Name y2 q2] X.env = [(false, eval (.Name y2 q2) X.env)] := by rfl)
    (hpl : (backTo pos (starEach [.Tuple [.Name y1 q1, .Name y2 q2] x1 q3] X.env)).any (·.1) = false := by rfl) :
    EE X W (.Call (.Name "isinstance" p) [e, .Tuple [.Name y1 q1, .Name y2 q2] x1 q3] [] pos) (tCB (rIsiT X.K) (tCons t (tCons (tTup (tCons (tC (.ty c1)) (tCons (tC (.ty c2)) tNil))) tNil))) (eX (isiD [c1, c2]) f) :=
  ⟨fun tk => pe_callB call_isiT hg hm PyProof.Rows.boot_isinstance (pa_cons (h.pe tk) (pa_cons (pe_tup (pa_cons (pe_bltn hgy1 hmy1 hvy1 rfl hny1 hdy1) (pa_cons (pe_bltn hgy2 hmy2 hvy2 rfl hny2 hdy2) pa_nil he4) he3)) pa_nil he2) he) (by decide) (by decide) he hpl, fun R H σ ρ Q rh s k => h.go R H σ ρ _ rh s ((After.bind k).imp fun d R1 H1 w1 k1 v dx => by
    cases hT : tagD d with
    | none => simp only [isiD, hT] at k1; exact k1.elim
    | some T =>
      simp only [isiD, hT] at k1
      refine ⟨by rw [sizeLine_eq]; show 2 ≤ 16777216; omega, fun tp htp => ?_⟩
      have w2 := Wd.new (o := .tup [.ty c1, .ty c2]) w1.rh htp
      refine ⟨v, tp, [.ty c1, .ty c2], .type T, [.type c1, .type c2], _, rfl, upd_same, paired_ty [c1, c2], denx_ty w2.rh (denx_mono w2 dx) hT, kit_any hT [c1, c2] (by intro z hz; rcases List.mem_cons.mp hz with rfl | hz; exact hc1; rcases List.mem_cons.mp hz with rfl | hz; exact hc2; cases hz), ?_⟩
      exact k1 _ _ w2 _ (.bl _))⟩
end
end PL

/-! the pure layer, part D: statements, loops, comprehensions, defs -/
namespace PL
open PySem PySem.Spec PyProof.Rows L2

/-- what a statement comes to -/
inductive Out where
  | nx (ρ : PEnv) | bk (ρ : PEnv) | ct (ρ : PEnv) | rt (d : D) | ex (C : Str) (fs : List (Str × D)) (ρ : PEnv) | bad
def Post (K : PySem.W.Frag) (mg : Str → Option Value) (W : WX) (H0 R0 Rl : Hp) (D' : Ends) : Out → Prop
  | .nx ρ => ∀ σ R H, RelS K mg H0 R0 Rl R H σ ρ → D'.nx σ H
  | .bk ρ => ∀ σ R H, RelS K mg H0 R0 Rl R H σ ρ → D'.bk σ H
  | .ct ρ => ∀ σ R H, RelS K mg H0 R0 Rl R H σ ρ → D'.ct σ H
  | .rt d => ∀ v R H, Sb H0 H → Sb R H → (∀ b, H0 b = none ∨ R b = R0 b) → Sb Rl R → Den K mg R v d → D'.rt v H
  | .ex C fs ρ => ∀ σ R H CA dd xs, RelS K mg H0 R0 Rl R H σ ρ → mg C = some (.ref CA) → H0 dd = none → R dd = some (.xd xs) → DenF K mg R xs fs → W (.ref CA) (some dd) σ H
  | .bad => False
structure ES (X : Cx) (W : WX) (st : Stmt) (t : TS) (f : PEnv → Out) : Prop where
  ps : L2N.Takes X W → PassesOwn (model X.prog X.w) X.A X.env X.xe → PS X st t
  go : ∀ (H0 R0 Rl R H : Hp) (σ : St) (ρ : PEnv) (D' : Ends), RelS X.K X.mg H0 R0 Rl R H σ ρ → Post X.K X.mg W H0 R0 Rl D' (f ρ) → t D' σ H
structure ESs (X : Cx) (W : WX) (st : List Stmt) (t : TS) (f : PEnv → Out) : Prop where
  ps : L2N.Takes X W → PassesOwn (model X.prog X.w) X.A X.env X.xe → PSs X st t
  go : ∀ (H0 R0 Rl R H : Hp) (σ : St) (ρ : PEnv) (D' : Ends), RelS X.K X.mg H0 R0 Rl R H σ ρ → Post X.K X.mg W H0 R0 Rl D' (f ρ) → t D' σ H

def sB {α : Type} (r : Rs α) (ρ : PEnv) (g : α → Out) : Out := match r with
  | .ok a => g a
  | .ex C fs => .ex C fs ρ
  | .bad => .bad
@[simp] theorem sB_ok {α : Type} (a : α) (ρ : PEnv) (g : α → Out) : sB (.ok a) ρ g = g a := rfl
@[simp] theorem sB_ex {α : Type} (C : Str) (fs : List (Str × D)) (ρ : PEnv) (g : α → Out) : sB (.ex C fs : Rs α) ρ g = .ex C fs ρ := rfl
section
variable {K : PySem.W.Frag} {mg : Str → Option Value} {W : WX} {σ : St} {ρ : PEnv} {H0 R0 Rl R H : Hp} {α : Type} {D' D2 : Ends}
theorem Post.ev {r : Rs α} {g : α → Out} (s : RelS K mg H0 R0 Rl R H σ ρ) (p : Post K mg W H0 R0 Rl D' (sB r ρ g)) :
    After K mg W σ R H r (fun a R' H' => RelS K mg H0 R0 Rl R' H' σ ρ ∧ Post K mg W H0 R0 Rl D' (g a)) := by
  cases r with
  | ok a => exact fun R' H' w => ⟨s.mono w, p⟩
  | ex C fs => exact fun R' H' CA dd xs w e1 e2 e3 e4 => p σ R' H' CA dd xs (s.mono w) e1 (s.h0.no e2) e3 e4
  | bad => exact p.elim
end

section
variable {X : Cx} {W : WX} {e : Expr} {te : TE} {f : PEnv → Rs D} {st : Stmt} {rest : List Stmt} {t u : TS} {g h : PEnv → Out} {pos pos' : Pos}
def sNext : PEnv → Out := fun ρ => .nx ρ
def sSeq (g h : PEnv → Out) : PEnv → Out := fun ρ => match g ρ with
  | .nx ρ' => h ρ'
  | o => o
theorem ess_nil : ESs X W [] tNext sNext := ⟨fun tk po => pss_nil, fun H0 R0 Rl R H σ ρ D' s p => p σ R H s⟩
theorem ess_cons (h1 : ES X W st t g) (h2 : ESs X W rest u h) : ESs X W (st :: rest) (tSeq t u) (sSeq g h) := ⟨fun tk po => pss_cons (h1.ps tk po) (h2.ps tk po), fun H0 R0 Rl R H σ ρ D' s p => h1.go H0 R0 Rl R H σ ρ _ s (by
  unfold sSeq at p
  cases hg : g ρ with
  | nx ρ' => rw [hg] at p; exact fun σ' R' H' s' => h2.go H0 R0 Rl R' H' σ' ρ' D' s' p
  | bk ρ' => rw [hg] at p; exact p
  | ct ρ' => rw [hg] at p; exact p
  | rt d => rw [hg] at p; exact p
  | ex C fs ρ' => rw [hg] at p; exact p
  | bad => rw [hg] at p; exact p)⟩
theorem ess_one (h1 : ES X W st t g) : ESs X W [st] t g := ⟨fun tk po => pss_one (h1.ps tk po), h1.go⟩
/-- a slot is owned no more, from here on -/
def sFrz (i : Nat) (g : PEnv → Out) : PEnv → Out := fun ρ => g (frzS ρ i)
theorem es_frz (i : Nat) (h1 : ES X W st t g) : ES X W st t (sFrz i g) := ⟨fun tk po => (h1.ps tk po), fun H0 R0 Rl R H σ ρ D' s p => by
  obtain ⟨R', s'⟩ := s.frz i
  exact h1.go H0 R0 Rl R' H σ _ D' s' p⟩
/-- slots are forgotten -/
def sUn (i : Nat) (g : PEnv → Out) : PEnv → Out := fun ρ => g (ρ.set i .un)

def sSet (i : Nat) (f : PEnv → Rs D) : PEnv → Out := fun ρ => sB (f ρ) ρ fun d => .nx (ρ.set i (.fz d))
def sSetN (i : Nat) (f : PEnv → Rs (List D)) : PEnv → Out := fun ρ => sB (f ρ) ρ fun ds => .nx (ρ.set i (.ow ds))
theorem set_go {i : Nat} (he : EE X W e te f) (H0 R0 Rl R H : Hp) (σ : St) (ρ : PEnv) (D' : Ends) (s : RelS X.K X.mg H0 R0 Rl R H σ ρ) (p : Post X.K X.mg W H0 R0 Rl D' (sSet i f ρ)) : tAsg te (gName i) D' σ H :=
  he.go R H σ ρ _ s.rh s.sl ((p.ev s).imp fun d R1 H1 w1 k v dv => k.2 _ R1 H1 (k.1.set dv))
theorem setN_go {i : Nat} {f : PEnv → Rs (List D)} (he : EN X W e te f) (H0 R0 Rl R H : Hp) (σ : St) (ρ : PEnv) (D' : Ends) (s : RelS X.K X.mg H0 R0 Rl R H σ ρ) (p : Post X.K X.mg W H0 R0 Rl D' (sSetN i f ρ)) : tAsg te (gName i) D' σ H :=
  he.go R H σ ρ _ s.rh s.sl ((p.ev s).imp fun ds R1 H1 w1 k q xs n n' e' dl => k.2 _ R1 H1 (s.setO w1 n n' e' dl))
theorem es_set {i : Nat} {x : Str} (hN : X.N.Nodup) (hi : X.N[i]? = some x) (hx : Loc X.env.scope x) (he : EE X W e te f) (hs : swapsWith e (some (.Name x pos')) pos.line X.env = pure false := by rfl) (hf : X.fn x = true ∨ X.env.scope.names.lookup x = some .local := by first | exact .inl rfl | exact .inr rfl | assumption) :
    ES X W (.Assign [.Name x pos'] e pos) (tAsg te (gName i)) (sSet i f) := ⟨fun tk po => ps_set hN hi hx (he.pe tk) hs hf, set_go he⟩
theorem es_setN {i : Nat} {x : Str} {f : PEnv → Rs (List D)} (hN : X.N.Nodup) (hi : X.N[i]? = some x) (hx : Loc X.env.scope x) (he : EN X W e te f) (hs : swapsWith e (some (.Name x pos')) pos.line X.env = pure false := by rfl) (hf : X.fn x = true ∨ X.env.scope.names.lookup x = some .local := by first | exact .inl rfl | exact .inr rfl | assumption) :
    ES X W (.Assign [.Name x pos'] e pos) (tAsg te (gName i)) (sSetN i f) := ⟨fun tk po => ps_set hN hi hx (he.pe tk) hs hf, setN_go he⟩
/-- .. where the statement's rule stands by itself (a comprehension that is stored at once) -/
theorem es_setR {i : Nat} (hp : L2N.Takes X W → PassesOwn (model X.prog X.w) X.A X.env X.xe → PS X st (tAsg te (gName i))) (hg : ∀ (R H : Hp) (σ : St) (ρ : PEnv) (Q : VK), Sb R H → SlP X.K X.mg R H σ ρ → After X.K X.mg W σ R H (f ρ) (fun d R' H' => ∀ v, Den X.K X.mg R' v d → Q v H') → te σ H Q) : ES X W st (tAsg te (gName i)) (sSet i f) :=
  ⟨hp, fun H0 R0 Rl R H σ ρ D' s p => hg R H σ ρ _ s.rh s.sl ((p.ev s).imp fun d R1 H1 w1 k v dv => k.2 _ R1 H1 (k.1.set dv))⟩
theorem es_setRN {i : Nat} {f : PEnv → Rs (List D)} (hp : L2N.Takes X W → PassesOwn (model X.prog X.w) X.A X.env X.xe → PS X st (tAsg te (gName i))) (hg : ∀ (R H : Hp) (σ : St) (ρ : PEnv) (Q : VK), Sb R H → SlP X.K X.mg R H σ ρ → After X.K X.mg W σ R H (f ρ) (fun ds R' H' => ∀ p xs, H p = none → R' p = none → H' p = some (.lst xs) → DenL X.K X.mg R' xs ds → Q (.ref p) H') → te σ H Q) : ES X W st (tAsg te (gName i)) (sSetN i f) :=
  ⟨hp, fun H0 R0 Rl R H σ ρ D' s p => hg R H σ ρ _ s.rh s.sl ((p.ev s).imp fun ds R1 H1 w1 k q xs n n' e' dl => k.2 _ R1 H1 (s.setO w1 n n' e' dl))⟩
/-- x += e, ints -/
def sAug (i : Nat) (op : Int → Int → Int) (f : PEnv → Rs D) : PEnv → Out := fun ρ => match ρ[i]? with
  | some (.fz (.int a)) => sB (f ρ) ρ fun d => match d with
    | .int b => .nx (ρ.set i (.fz (.int (op a b))))
    | _ => .bad
  | _ => .bad
theorem es_aug {i : Nat} {x : Str} {op : Operator} {fo : Int → Int → Int} (hN : X.N.Nodup) (hi : X.N[i]? = some x) (hx : Loc X.env.scope x) (he : EE X W e te f) (ho : PIp X op (ipI fo)) (hf : X.fn x = true ∨ X.env.scope.names.lookup x = some .local := by first | exact .inl rfl | exact .inr rfl | assumption) :
    ES X W (.AugAssign (.Name x pos') op e pos) (tAug i te (ipI fo)) (sAug i fo f) := ⟨fun tk po => ps_aug hN hi hx (he.pe tk) ho hf, fun H0 R0 Rl R H σ ρ D' s p => by
  unfold sAug at p
  split at p
  · rename_i a ha
    obtain ⟨v, h1, h2⟩ := s.sl.fz i _ ha
    cases h2
    refine ⟨_, h1, he.go R H σ ρ _ s.rh s.sl ((p.ev s).imp fun d R1 H1 w1 k v dv => ?_)⟩
    cases dv with
    | int b => exact ⟨a, b, rfl, rfl, k.2 _ R1 H1 (k.1.set (.int _))⟩
    | _ => exact k.2.elim
  · exact p.elim⟩
def sDrop (f : PEnv → Rs D) : PEnv → Out := fun ρ => sB (f ρ) ρ fun _ => .nx ρ
theorem es_expr (he : EE X W e te f) (hs : swapsWith e none pos.line X.env = pure false := by rfl) : ES X W (.Expr e pos) (tDrop te) (sDrop f) :=
  ⟨fun tk po => ps_expr (he.pe tk) hs, fun H0 R0 Rl R H σ ρ D' s p => he.go R H σ ρ _ s.rh s.sl ((p.ev s).imp fun d R1 H1 w1 k v dv => k.2 σ R1 H1 k.1)⟩
def sRet (f : PEnv → Rs D) : PEnv → Out := fun ρ => sB (f ρ) ρ fun d => .rt d
theorem es_ret (he : EX X W e te f) : ES X W (.Return (some e) pos) (tRet te) (sRet f) :=
  ⟨fun tk po => ps_ret (he.pe tk), fun H0 R0 Rl R H σ ρ D' s p => he.go R H σ ρ _ s.rh s.sl ((p.ev s).imp fun d R1 H1 w1 k v dx => by
    rcases dx with dv | ⟨i, q, rfl, e2, e3, h | h⟩
    · exact k.2 v R1 H1 k.1.h0 k.1.rh k.1.r0 k.1.rl dv
    · obtain ⟨xs, ds, rfl, h1, h2, h3⟩ := h
      have t := k.1.take (.inl ⟨_, h1⟩) e2 e3 h2
      exact k.2 _ _ H1 t.h0 t.rh t.r0 t.rl (.lst upd_same (h3.mono (Sb.upd e3)))
    · obtain ⟨xs, ds, rfl, h1, h2, h3⟩ := h
      have t := k.1.take (.inr ⟨_, h1⟩) e2 e3 h2
      exact k.2 _ _ H1 t.h0 t.rh t.r0 t.rl (.dct upd_same (h3.mono (Sb.upd e3))))⟩
theorem es_retN : ES X W (.Return none pos) tRetN (fun _ => .rt .non) := ⟨fun tk po => ps_retN, fun H0 R0 Rl R H σ ρ D' s p => p .non R H s.h0 s.rh s.r0 s.rl .non⟩
def sIf (c : PEnv → Rs Bool) (g h : PEnv → Out) : PEnv → Out := fun ρ => sB (c ρ) ρ fun b => if b = true then g ρ else h ρ
theorem es_if {c : Expr} {a b : List Stmt} {tc : TT} {fc : PEnv → Rs Bool} (hc : ET X W c tc fc) (ha : ESs X W a t g) (hb : ESs X W b u h) : ES X W (.If c a b pos) (tIfS tc t u) (sIf fc g h) :=
  ⟨fun tk po => ps_if (hc.pt tk) (ha.ps tk po) (hb.ps tk po), fun H0 R0 Rl R H σ ρ D' s p => hc.go R H σ ρ _ s.rh s.sl ((p.ev s).imp fun d R1 H1 w1 k => by
    cases d with
    | true => exact ha.go H0 R0 Rl R1 H1 σ ρ D' k.1 k.2
    | false => exact hb.go H0 R0 Rl R1 H1 σ ρ D' k.1 k.2)⟩
theorem es_pass : ES X W (.Pass pos) tNext sNext := ⟨fun tk po => ps_pass, fun H0 R0 Rl R H σ ρ D' s p => p σ R H s⟩
theorem es_break : ES X W (.Break pos) tBreak (fun ρ => .bk ρ) := ⟨fun tk po => ps_break, fun H0 R0 Rl R H σ ρ D' s p => p σ R H s⟩
theorem es_cont : ES X W (.Continue pos) tCont (fun ρ => .ct ρ) := ⟨fun tk po => ps_continue, fun H0 R0 Rl R H σ ρ D' s p => p σ R H s⟩
theorem es_doc {x j} : ES X W (.Expr (.Constant (.str x) j pos) pos') tNext sNext := ⟨fun tk po => ps_doc, fun H0 R0 Rl R H σ ρ D' s p => p σ R H s⟩

/-! ### an owned list changes -/
/-- xs.append(e) -/
def sApp (i : Nat) (f : PEnv → Rs D) : PEnv → Out := fun ρ => match ρ[i]? with
  | some (.ow ds) => sB (f ρ) ρ fun d => if ds.length < 16777216 then .nx (ρ.set i (.ow (ds ++ [d]))) else .bad
  | _ => .bad
theorem es_app {i : Nat} {o : Expr} {apos cpos : Pos} (he : EE X W e te f)
    (hp : L2N.Takes X W → PE X (.Call (.Attribute o "append" apos) [e] [] cpos) (tBM X.K "list" rAppend (tVar i) (tCons te tNil))) (hs : swapsWith (.Call (.Attribute o "append" apos) [e] [] cpos) none pos.line X.env = pure false := by rfl) :
    ES X W (.Expr (.Call (.Attribute o "append" apos) [e] [] cpos) pos) (tDrop (tBM X.K "list" rAppend (tVar i) (tCons te tNil))) (sApp i f) := ⟨fun tk po => ps_expr (hp tk) hs, fun H0 R0 Rl R H σ ρ D' s p => by
  unfold sApp at p
  split at p
  · rename_i ds hd
    obtain ⟨q, xs, h1, h2, h3, h4⟩ := s.sl.ow i ds hd
    refine ⟨.ref q, h1, .inl ⟨rfl, xs, .inl (.inl h2)⟩, ?_⟩
    refine he.go R H σ ρ _ s.rh s.sl ((p.ev s).imp fun d R1 H1 w1 k v dv => ?_)
    obtain ⟨k1, k2⟩ := k
    split at k2
    · rename_i hz
      refine ⟨q, xs, v, rfl, rfl, w1.hh _ _ h2, by rw [sizeLine_eq, h4.len]; exact hz, ?_⟩
      exact k2 σ R1 _ (k1.chg hd h1 ((h4.mono w1.rr).app (.cons dv .nil)))
    · exact k2.elim
  · exact p.elim⟩
/-- xs[i] = e -/
def sPut (i : Nat) (fi f : PEnv → Rs D) : PEnv → Out := fun ρ => match ρ[i]? with
  | some (.ow ds) => sB (f ρ) ρ fun d => sB (fi ρ) ρ fun k => match k with
    | .int n => match ixN ds.length n with
      | some j => .nx (ρ.set i (.ow (ds.set j d)))
      | none => .bad
    | _ => .bad
  | _ => .bad
theorem es_put {i : Nat} {tg b : Expr} {tb : TE} {fb : PEnv → Rs D} (hb : EE X W b tb fb) (he : EE X W e te f) (hp : L2N.Takes X W → PassesOwn (model X.prog X.w) X.A X.env X.xe → PS X st (tAsg te (gSub (tVar i) tb rSetL))) : ES X W st (tAsg te (gSub (tVar i) tb rSetL)) (sPut i fb f) := ⟨hp, fun H0 R0 Rl R H σ ρ D' s p => by
  unfold sPut at p
  split at p
  · rename_i ds hd
    obtain ⟨q, xs, h1, h2, h3, h4⟩ := s.sl.ow i ds hd
    refine he.go R H σ ρ _ s.rh s.sl ((p.ev s).imp fun d R1 H1 w1 k v dv => ?_)
    refine ⟨.ref q, h1, hb.go R1 H1 σ ρ _ w1.rh k.1.sl ((k.2.ev k.1).imp fun c R2 H2 w2 k2 u du => ?_)⟩
    cases du with
    | int n =>
      obtain ⟨k2, k3⟩ := k2
      cases hj : ixN ds.length n with
      | none => simp only [hj] at k3; exact k3.elim
      | some j =>
        simp only [hj] at k3
        exact ⟨q, xs, n, j, rfl, rfl, w2.hh _ _ (w1.hh _ _ h2), by rw [h4.len]; exact hj, k3 σ R2 _ (k2.chg hd h1 (DenL.set (dv.mono w2.rr) j (h4.mono (w1.tr w2).rr)))⟩
    | _ => exact k2.2.elim
  · exact p.elim⟩

/-! ### targets -/
structure EG (X : Cx) (tg : Expr) (t : TG) (g : PEnv → D → Option PEnv) : Prop where
  pg : PG X tg t
  go : ∀ (H0 R0 Rl R H : Hp) (σ : St) (ρ ρ' : PEnv) (v : V) (d : D) (Q : St → Hp → Prop), RelS X.K X.mg H0 R0 Rl R H σ ρ → Den X.K X.mg R v d → g ρ d = some ρ' → (∀ σ', RelS X.K X.mg H0 R0 Rl R H σ' ρ' → Q σ' H) → t v σ H Q
structure EGs (X : Cx) (tg : List Expr) (t : TGs) (g : PEnv → List D → Option PEnv) : Prop where
  pg : PGs X tg t
  go : ∀ (H0 R0 Rl R H : Hp) (σ : St) (ρ ρ' : PEnv) (v : List V) (d : List D) (Q : St → Hp → Prop), RelS X.K X.mg H0 R0 Rl R H σ ρ → DenL X.K X.mg R v d → g ρ d = some ρ' → (∀ σ', RelS X.K X.mg H0 R0 Rl R H σ' ρ' → Q σ' H) → t v σ H Q
def gN (i : Nat) : PEnv → D → Option PEnv := fun ρ d => some (ρ.set i (.fz d))
theorem eg_name {i : Nat} {x : Str} (hN : X.N.Nodup) (hi : X.N[i]? = some x) (hx : Loc X.env.scope x) (hf : X.fn x = true ∨ X.env.scope.names.lookup x = some .local := by first | exact .inl rfl | exact .inr rfl | assumption) : EG X (.Name x pos) (gName i) (gN i) :=
  ⟨pg_name hN hi hx hf, fun H0 R0 Rl R H σ ρ ρ' v d Q s dv e k => by cases e; exact k _ (s.set dv)⟩
def gNl : PEnv → List D → Option PEnv := fun ρ d => match d with | [] => some ρ | _ => none
def gCn (g : PEnv → D → Option PEnv) (r : PEnv → List D → Option PEnv) : PEnv → List D → Option PEnv := fun ρ d => match d with | x :: xs => (g ρ x).bind fun ρ' => r ρ' xs | [] => none
theorem egs_nil : EGs X [] gNil gNl := ⟨pgs_nil, fun H0 R0 Rl R H σ ρ ρ' v d Q s dv e k => by
  cases dv with
  | nil => cases e; exact ⟨rfl, k σ s⟩
  | cons => cases e⟩
theorem egs_cons {a : Expr} {es : List Expr} {t : TG} {u : TGs} {g : PEnv → D → Option PEnv} {r : PEnv → List D → Option PEnv} (h1 : EG X a t g) (h2 : EGs X es u r) (hs : (assignEach (a :: es) X.env).map (·.2) = assign a X.env :: (assignEach es X.env).map (·.2) := by rfl) : EGs X (a :: es) (gCons t u) (gCn g r) :=
  ⟨pgs_cons h1.pg h2.pg hs, fun H0 R0 Rl R H σ ρ ρ' v d Q s dv e k => by
  cases dv with
  | nil => cases e
  | @cons y ys x xs hd hs' =>
    cases hg : g ρ x with
    | none => simp only [gCn, hg] at e; cases e
    | some ρ1 =>
      simp only [gCn, hg] at e
      exact ⟨y, ys, rfl, h1.go H0 R0 Rl R H σ ρ ρ1 y x _ s hd hg fun σ1 s1 => h2.go H0 R0 Rl R H σ1 ρ1 ρ' ys xs _ s1 hs' e k⟩⟩
def gTp (n : Nat) (r : PEnv → List D → Option PEnv) : PEnv → D → Option PEnv := fun ρ d => match d with | .tup ds => if ds.length = n then r ρ ds else none | _ => none
theorem eg_tup {es : List Expr} {kx : Nat} {u : TGs} {n : Nat} {r : PEnv → List D → Option PEnv} (hc : X.calm = true) (h : EGs X es u r) (hn : (assignEach es X.env).length = n := by rfl) (hst : (assignEach es X.env).findIdx? (·.1) = none := by rfl) : EG X (.Tuple es kx pos) (gTup X.K n u) (gTp n r) :=
  ⟨pg_tup hc h.pg hn hst, fun H0 R0 Rl R H σ ρ ρ' v d Q s dv e k => by
  cases dv with
  | @tup a xs ds h1 h2 =>
    simp only [gTp] at e
    split at e
    · rename_i hl
      exact ⟨a, xs, rfl, s.rh.t h1, by rw [h2.len]; exact hl, h.go H0 R0 Rl R H σ ρ ρ' xs ds Q s h2 e k⟩
    · cases e
  | _ => cases e⟩
/-- a, b = e -/
def sUnp (g : PEnv → D → Option PEnv) (f : PEnv → Rs D) : PEnv → Out := fun ρ => sB (f ρ) ρ fun d => match g ρ d with | some ρ' => .nx ρ' | none => .bad
theorem es_unp {tg : Expr} {t : TG} {g : PEnv → D → Option PEnv} (he : EE X W e te f) (hg : EG X tg t g) (hs : swapsWithSole [tg] e pos.line X.env = pure false := by rfl) (hw : swappedStores [tg] e X.env = pure none := by rfl)
    (h1 : (assignEach [tg] X.env).map (·.2) = [assign tg X.env] := by rfl) : ES X W (.Assign [tg] e pos) (tAsg te t) (sUnp g f) :=
  ⟨fun tk po => ps_asg (he.pe tk) hg.pg hs hw h1, fun H0 R0 Rl R H σ ρ D' s p => he.go R H σ ρ _ s.rh s.sl ((p.ev s).imp fun d R1 H1 w1 k v dv => by
    cases hd : g ρ d with
    | none => simp only [hd] at k; exact k.2.elim
    | some ρ' => simp only [hd] at k; exact hg.go H0 R0 Rl R1 H1 σ ρ ρ' v d _ k.1 dv hd fun σ' s' => k.2 σ' R1 H1 s')⟩

/-! ### what is walked -/
def Walks (K : PySem.W.Frag) (mg : Str → Option Value) (J : It) (R : Hp) (ds : List D) : Prop := ∀ (i : Nat) (R1 H1 : Hp), Sb R R1 → Sb R1 H1 →
  (∀ d, ds[i]? = some d → J.go i H1 ∧ ∀ x H', J.yld i H1 x H' → ∃ R', Wd R1 H1 R' H' ∧ Den K mg R' x d) ∧ (ds.length ≤ i → J.stop i H1)
structure EI (X : Cx) (W : WX) (tg iter : Expr) (wi : TI) (f : PEnv → Rs (List D)) : Prop where
  pi : L2N.Takes X W → PI X tg iter wi
  go : ∀ (R H : Hp) (σ : St) (ρ : PEnv) (Q : It → Hp → Prop), Sb R H → SlP X.K X.mg R H σ ρ → After X.K X.mg W σ R H (f ρ) (fun ds R' H' => ∀ J, Walks X.K X.mg J R' ds → Q J H') → wi σ H Q
/-- the datum of a list or tuple -/
def seqD : D → Option (List D) | .lst ds => some ds | .scl ds => some ds | .tup ds => some ds | _ => none
def iSq (f : PEnv → Rs D) : PEnv → Rs (List D) := fun ρ => (f ρ).bind fun d => ofO (seqD d)
theorem walks_l {K : PySem.W.Frag} {mg : Str → Option Value} {R : Hp} {a : Addr} {xs : List V} {ds : List D} (h : SqL K R a xs) (dl : DenL K mg R xs ds) : Walks K mg (Itl K a) R ds := fun i R1 H1 r1 h1 =>
  ⟨fun d e => by
    obtain ⟨y, hy, dy⟩ := dl.get e
    refine ⟨⟨xs, y, h1.l (r1.l h), hy⟩, fun x H' q => ?_⟩
    obtain ⟨rfl, q⟩ := q
    have := (q xs (h1.l (r1.l h))).symm.trans hy
    cases this
    exact ⟨R1, Wd.refl h1, dy.mono r1⟩, fun hl => ⟨xs, h1.l (r1.l h), by rw [dl.len]; exact hl⟩⟩
theorem walks_t {K : PySem.W.Frag} {mg : Str → Option Value} {R : Hp} {a : Addr} {xs : List V} {ds : List D} (h : SqT K R a xs) (dl : DenL K mg R xs ds) : Walks K mg (Itt K a) R ds := fun i R1 H1 r1 h1 =>
  ⟨fun d e => by
    obtain ⟨y, hy, dy⟩ := dl.get e
    refine ⟨⟨xs, y, h1.t (r1.t h), hy⟩, fun x H' q => ?_⟩
    obtain ⟨rfl, q⟩ := q
    have := (q xs (h1.t (r1.t h))).symm.trans hy
    cases this
    exact ⟨R1, Wd.refl h1, dy.mono r1⟩, fun hl => ⟨xs, h1.t (r1.t h), by rw [dl.len]; exact hl⟩⟩
def iSeq (K : PySem.W.Frag) (tl : TE) : TI := fun σ H R => iList K tl σ H R ∨ iTup K tl σ H R
theorem ei_seq {tg l : Expr} {tl : TE} {fl : PEnv → Rs D} (h : EE X W l tl fl) : EI X W tg l (iSeq X.K tl) (iSq fl) := by
  refine ⟨fun tk => ⟨fun pins s σ H R I q => ?_⟩, fun R H σ ρ Q rh s k => ?_⟩
  · rcases q with q | q
    · exact (pi_list (h.pe tk)).run pins s σ H R I q
    · exact (pi_tup (h.pe tk)).run pins s σ H R I q
  · have isT : (∃ ds, fl ρ = .ok (.tup ds)) ∨ ∀ ds, fl ρ ≠ .ok (.tup ds) := by
      cases hf : fl ρ with
      | ok d => cases d with
        | tup ds => exact .inl ⟨ds, rfl⟩
        | _ => exact .inr fun ds z => nomatch z
      | _ => exact .inr fun ds z => nomatch z
    rcases isT with ⟨ds, hf⟩ | hn
    · refine .inr (h.go R H σ ρ _ rh s ?_)
      have k := After.bind k
      rw [hf] at k ⊢
      intro R1 H1 w1 v dv
      cases dv with
      | tup h1 h2 => exact ⟨_, rfl, ⟨_, w1.rh.t h1⟩, (After.ok w1.rh (k R1 H1 w1)) _ (walks_t h1 h2)⟩
    · refine .inl (h.go R H σ ρ _ rh s ?_)
      have k := After.bind k
      cases hf : fl ρ with
      | ok d =>
        rw [hf] at k
        intro R1 H1 w1 v dv
        have k := k R1 H1 w1
        cases dv with
        | lst h1 h2 => exact ⟨_, rfl, ⟨_, w1.rh.l (.inl (.inl h1))⟩, (After.ok w1.rh k) _ (walks_l (.inl (.inl h1)) h2)⟩
        | scl h1 h2 => exact ⟨_, rfl, ⟨_, w1.rh.l h1⟩, (After.ok w1.rh k) _ (walks_l h1 h2)⟩
        | tup h1 h2 => exact (hn _ hf).elim
        | _ => exact k.elim
      | ex C fs => rw [hf] at k; exact k
      | bad => rw [hf] at k; exact k.elim
/-- range -/
def rgD (lo : Int) (n : Nat) : List D := (List.range n).map fun (k : Nat) => D.int (lo + (k : Int))
theorem walks_r {K : PySem.W.Frag} {mg : Str → Option Value} {R : Hp} (lo : Int) (n : Nat) : Walks K mg (Itr lo n) R (rgD lo n) := fun i R1 H1 r1 h1 =>
  ⟨fun d e => by
    unfold rgD at e
    rw [List.getElem?_map] at e
    cases hk : (List.range n)[i]? with
    | none => rw [hk] at e; cases e
    | some k =>
      rw [hk] at e; cases e
      obtain ⟨hi, hk⟩ := List.getElem?_eq_some_iff.mp hk
      rw [List.length_range] at hi
      rw [List.getElem_range] at hk
      subst hk
      exact ⟨hi, fun x H' q => by obtain ⟨rfl, rfl⟩ := q; exact ⟨R1, Wd.refl h1, .int _⟩⟩, fun hl => by unfold rgD at hl; rw [List.length_map, List.length_range] at hl; exact hl⟩
def okR (i : Int) : Prop := -(2 ^ 62) ≤ i ∧ i < 2 ^ 62
noncomputable instance (i : Int) : Decidable (okR i) := Classical.propDecidable _
noncomputable def iR1 (f : PEnv → Rs (List D)) : PEnv → Rs (List D) := fun ρ => (f ρ).bind fun ds => match ds with | [.int j] => if okR j then .ok (rgD 0 j.toNat) else .bad | _ => .bad
noncomputable def iR2 (f : PEnv → Rs (List D)) : PEnv → Rs (List D) := fun ρ => (f ρ).bind fun ds => match ds with | [.int i, .int j] => if okR i ∧ okR j then .ok (rgD i (j - i).toNat) else .bad | _ => .bad
theorem ei_r1 {tg a : Expr} {ta : TA} {fa : PEnv → Rs (List D)} {p : Pos} (hg : Gl X "range") (hm : X.mg "range" = none) (h : EA X W [a] ta fa) (hs : starEach [a] X.env = [(false, eval a X.env)] := by rfl) : EI X W tg (.Call (.Name "range" p) [a] [] pos) (iRng1 ta) (iR1 fa) :=
  ⟨fun tk => pi_range1 hg hm (h.pa tk) hs, fun R H σ ρ Q rh s k => h.go R H σ ρ _ rh s ((After.bind k).imp fun ds R1 H1 w1 k1 vs dvs => by
    split at k1
    · rename_i j
      split at k1
      · rename_i hj
        cases dvs with
        | cons h1 h2 => cases h1; cases h2; exact ⟨j, rfl, hj.1, hj.2, (After.ok w1.rh k1) _ (walks_r 0 _)⟩
      · exact k1.elim
    · exact k1.elim)⟩
theorem ei_r2 {tg a b : Expr} {ta : TA} {fa : PEnv → Rs (List D)} {p : Pos} (hg : Gl X "range") (hm : X.mg "range" = none) (h : EA X W [a, b] ta fa) (hs : starEach [a, b] X.env = [(false, eval a X.env), (false, eval b X.env)] := by rfl) (hs2 : starEach [b] X.env = [(false, eval b X.env)] := by rfl) : EI X W tg (.Call (.Name "range" p) [a, b] [] pos) (iRng2 ta) (iR2 fa) :=
  ⟨fun tk => pi_range2 hg hm (h.pa tk) hs hs2, fun R H σ ρ Q rh s k => h.go R H σ ρ _ rh s ((After.bind k).imp fun ds R1 H1 w1 k1 vs dvs => by
    split at k1
    · rename_i i j
      split at k1
      · rename_i hj
        have := denl2 dvs
        subst this
        exact ⟨i, j, rfl, ⟨hj.1.1, hj.1.2, hj.2.1, hj.2.2⟩, (After.ok w1.rh k1) _ (walks_r i _)⟩
      · exact k1.elim
    · exact k1.elim)⟩

/-! ### for -/
def forF (g : PEnv → D → Option PEnv) (b : PEnv → Out) : List D → PEnv → Out
  | [], ρ => .nx ρ
  | d :: ds, ρ => match g ρ d with
    | none => .bad
    | some ρ1 => match b ρ1 with
      | .nx ρ' => forF g b ds ρ'
      | .ct ρ' => forF g b ds ρ'
      | .bk ρ' => .nx ρ'
      | .rt d => .rt d
      | .ex C fs ρ' => .ex C fs ρ'
      | .bad => .bad
def sFor (it : PEnv → Rs (List D)) (g : PEnv → D → Option PEnv) (b : PEnv → Out) : PEnv → Out := fun ρ => sB (it ρ) ρ fun ds => forF g b ds ρ
theorem RelS.low {K : PySem.W.Frag} {mg : Str → Option Value} {H0 R0 Rl Rk R H : Hp} {σ : St} {ρ : PEnv} (s : RelS K mg H0 R0 Rk R H σ ρ) (h : Sb Rl Rk) : RelS K mg H0 R0 Rl R H σ ρ := ⟨s.rh, s.sl, s.h0, s.r0, h.tr s.rl, s.nw⟩
theorem RelS.self {K : PySem.W.Frag} {mg : Str → Option Value} {H0 R0 Rl R H : Hp} {σ : St} {ρ : PEnv} (s : RelS K mg H0 R0 Rl R H σ ρ) : RelS K mg H0 R0 R R H σ ρ := ⟨s.rh, s.sl, s.h0, s.r0, Sb.refl _, s.nw⟩
theorem Post.low {K : PySem.W.Frag} {mg : Str → Option Value} {W : WX} {H0 R0 Rl Rk : Hp} {D' : Ends} {o : Out} (h : Sb Rl Rk) (p : Post K mg W H0 R0 Rl D' o) : Post K mg W H0 R0 Rk D' o := by
  cases o with
  | nx ρ => exact fun σ R H s => p σ R H (s.low h)
  | bk ρ => exact fun σ R H s => p σ R H (s.low h)
  | ct ρ => exact fun σ R H s => p σ R H (s.low h)
  | rt d => exact fun v R H a b c e => p v R H a b c (h.tr e)
  | ex C fs ρ => exact fun σ R H CA dd xs s => p σ R H CA dd xs (s.low h)
  | bad => exact p
theorem for_go {g : TG} {tb : TS} {gg : PEnv → D → Option PEnv} {fb : PEnv → Out} {H0 R0 Rj : Hp} {D' : Ends} {J : It} {ds : List D} {tg : Expr} (hg : EG X tg g gg) (hb : ∀ (R H : Hp) (σ : St) (ρ : PEnv) (D2 : Ends), RelS X.K X.mg H0 R0 Rj R H σ ρ → Post X.K X.mg W H0 R0 Rj D2 (fb ρ) → tb D2 σ H)
    (wk : Walks X.K X.mg J Rj ds) {R H : Hp} {σ : St} {ρ : PEnv} (s : RelS X.K X.mg H0 R0 Rj R H σ ρ) (p : Post X.K X.mg W H0 R0 Rj D' (forF gg fb ds ρ)) :
    ∃ W : Nat → Nat → St → Hp → Prop, (∃ m, W 0 m σ H) ∧ ∀ i m σ H, W i m σ H →
      (J.stop i H ∧ D'.nx σ H) ∨ (J.go i H ∧ ∃ N : St → Hp → Prop, (∀ σ' H', N σ' H' → ∃ m', m' < m ∧ W (i + 1) m' σ' H') ∧ ∀ x H', J.yld i H x H' → g x σ H' fun σ2 H2 => tb { D' with nx := N, ct := N, bk := D'.nx } σ2 H2) := by
  refine ⟨fun i m σ H => m = ds.length - i ∧ i ≤ ds.length ∧ ∃ R ρ, RelS X.K X.mg H0 R0 Rj R H σ ρ ∧ Post X.K X.mg W H0 R0 Rj D' (forF gg fb (ds.drop i) ρ), ⟨ds.length, by simp, Nat.zero_le _, R, ρ, s, by rw [List.drop_zero]; exact p⟩, ?_⟩
  rintro i m σ H ⟨rfl, hi, R, ρ, s, p⟩
  obtain ⟨w1, w2⟩ := wk i R H s.rl s.rh
  by_cases hlt : i < ds.length
  · obtain ⟨w3, w4⟩ := w1 ds[i] (List.getElem?_eq_getElem hlt)
    refine .inr ⟨w3, fun σ' H' => i + 1 ≤ ds.length ∧ ∃ R ρ, RelS X.K X.mg H0 R0 Rj R H' σ' ρ ∧ Post X.K X.mg W H0 R0 Rj D' (forF gg fb (ds.drop (i + 1)) ρ), fun σ' H' n => ⟨ds.length - (i + 1), by omega, rfl, n⟩, fun x H' y => ?_⟩
    obtain ⟨R', wd, dx⟩ := w4 x H' y
    have s' := s.mono wd
    rw [List.drop_eq_getElem_cons hlt] at p
    unfold forF at p
    cases hd : gg ρ ds[i] with
    | none => rw [hd] at p; exact p.elim
    | some ρ1 =>
      rw [hd] at p
      refine hg.go H0 R0 Rj R' H' σ ρ ρ1 x ds[i] _ s' dx hd fun σ1 s1 => hb R' H' σ1 ρ1 _ s1 ?_
      simp only at p
      cases hb : fb ρ1 with
      | nx ρ' => rw [hb] at p; exact fun σ2 R2 H2 s2 => ⟨by omega, R2, ρ', s2, p⟩
      | ct ρ' => rw [hb] at p; exact fun σ2 R2 H2 s2 => ⟨by omega, R2, ρ', s2, p⟩
      | bk ρ' => rw [hb] at p; exact p
      | rt d => rw [hb] at p; exact p
      | ex C fs ρ' => rw [hb] at p; exact p
      | bad => rw [hb] at p; exact p.elim
  · have e : i = ds.length := by omega
    subst e
    rw [List.drop_length] at p
    exact .inl ⟨w2 (Nat.le_refl _), p σ R H s⟩
theorem es_for {tg iter : Expr} {body : List Stmt} {wi : TI} {g : TG} {tb : TS} {fi : PEnv → Rs (List D)} {gg : PEnv → D → Option PEnv} {fb : PEnv → Out} (hc : X.calm = true) (hi : EI X W tg iter wi fi) (hg : EG X tg g gg) (hb : ESs X W body tb fb)
    (hs : ∀ x, foldedSetIterable iter X.env x = pure x := by intro _; rfl) : ES X W (.For tg iter body [] pos) (tFor wi g tb) (sFor fi gg fb) :=
  ⟨fun tk po => ps_for po hc (hi.pi tk) hg.pg (hb.ps tk po) hs, fun H0 R0 Rl R H σ ρ D' s p => hi.go R H σ ρ _ s.rh s.sl ((p.ev s).imp fun ds R1 H1 w1 k J wk =>
    for_go hg (fun R H σ ρ D2 s2 p2 => hb.go H0 R0 R1 R H σ ρ D2 s2 p2) wk k.1.self (k.2.low k.1.rl))⟩

/-! ### while -/
def whF (c : PEnv → Rs Bool) (b : PEnv → Out) : Nat → PEnv → Option Out
  | 0, _ => none
  | n + 1, ρ => match c ρ with
    | .ok false => some (.nx ρ)
    | .ok true => match b ρ with
      | .nx ρ' => whF c b n ρ'
      | .ct ρ' => whF c b n ρ'
      | .bk ρ' => some (.nx ρ')
      | .rt d => some (.rt d)
      | .ex C fs ρ' => some (.ex C fs ρ')
      | .bad => some .bad
    | .ex C fs => some (.ex C fs ρ)
    | .bad => some .bad
theorem whF_succ {c : PEnv → Rs Bool} {b : PEnv → Out} : ∀ {n : Nat} {ρ : PEnv} {o : Out}, whF c b n ρ = some o → whF c b (n + 1) ρ = some o
  | 0, _, _, h => by cases h
  | n + 1, ρ, o, h => by
    rw [whF] at h ⊢
    cases hc : c ρ with
    | ok v =>
      rw [hc] at h
      cases v with
      | false => exact h
      | true =>
        simp only at h ⊢
        cases hb : b ρ with
        | nx ρ' => rw [hb] at h; exact whF_succ h
        | ct ρ' => rw [hb] at h; exact whF_succ h
        | _ => rw [hb] at h; exact h
    | ex C fs => rw [hc] at h; exact h
    | bad => rw [hc] at h; exact h
theorem whF_le {c : PEnv → Rs Bool} {b : PEnv → Out} {n : Nat} {ρ : PEnv} {o : Out} (h : whF c b n ρ = some o) : ∀ {m : Nat}, n ≤ m → whF c b m ρ = some o
  | m, hm => by
    induction m with
    | zero => have : n = 0 := by omega
              subst this; exact h
    | succ m ih =>
      by_cases e : n = m + 1
      · subst e; exact h
      · exact whF_succ (ih (by omega))
open Classical in
noncomputable def sWh (c : PEnv → Rs Bool) (b : PEnv → Out) : PEnv → Out := fun ρ => if h : ∃ n o, whF c b n ρ = some o then choose (choose_spec h) else .bad
theorem sWh_of {c : PEnv → Rs Bool} {b : PEnv → Out} {n : Nat} {ρ : PEnv} {o : Out} (h : whF c b n ρ = some o) : sWh c b ρ = o := by
  unfold sWh
  have hx : ∃ n o, whF c b n ρ = some o := ⟨n, o, h⟩
  rw [dif_pos hx]
  have h1 := Classical.choose_spec (Classical.choose_spec hx)
  have h2 := whF_le h1 (Nat.le_max_left (Classical.choose hx) n)
  have h3 := whF_le h (Nat.le_max_right (Classical.choose hx) n)
  rw [h2] at h3
  exact Option.some.inj h3
theorem sWh_ex {c : PEnv → Rs Bool} {b : PEnv → Out} {ρ : PEnv} (h : sWh c b ρ ≠ .bad) : ∃ n, whF c b n ρ = some (sWh c b ρ) := by
  by_cases hx : ∃ n o, whF c b n ρ = some o
  · obtain ⟨n, o, e⟩ := hx
    exact ⟨n, by rw [sWh_of e]; exact e⟩
  · exact absurd (by unfold sWh; rw [dif_neg hx]) h
theorem es_while {c : Expr} {body : List Stmt} {tc : TT} {tb : TS} {fc : PEnv → Rs Bool} {fb : PEnv → Out} (hc : ET X W c tc fc) (hb : ESs X W body tb fb) : ES X W (.While c body [] pos) (tWhile tc tb) (sWh fc fb) :=
  ⟨fun tk po => ps_while po (hc.pt tk) (hb.ps tk po), fun H0 R0 Rl R H σ ρ D' s p => by
    have nb : sWh fc fb ρ ≠ .bad := fun z => by rw [z] at p; exact p
    obtain ⟨n, hn⟩ := sWh_ex nb
    refine ⟨fun m σ H => ∃ R ρ o, RelS X.K X.mg H0 R0 Rl R H σ ρ ∧ whF fc fb m ρ = some o ∧ Post X.K X.mg W H0 R0 Rl D' o, ⟨n, R, ρ, _, s, hn, p⟩, ?_⟩
    rintro m σ H ⟨R, ρ, o, s, hm, p⟩
    cases m with
    | zero => cases hm
    | succ m =>
      have q : After X.K X.mg W σ R H (fc ρ) (fun b R1 H1 => RelS X.K X.mg H0 R0 Rl R1 H1 σ ρ ∧ if b = true then ∃ o1, fb ρ = o1 ∧ (match o1 with
          | .nx ρ' => ∃ o, whF fc fb m ρ' = some o ∧ Post X.K X.mg W H0 R0 Rl D' o
          | .ct ρ' => ∃ o, whF fc fb m ρ' = some o ∧ Post X.K X.mg W H0 R0 Rl D' o
          | .bk ρ' => Post X.K X.mg W H0 R0 Rl D' (.nx ρ')
          | o2 => Post X.K X.mg W H0 R0 Rl D' o2) else Post X.K X.mg W H0 R0 Rl D' (.nx ρ)) := by
        rw [whF] at hm
        cases hf : fc ρ with
        | ok b =>
          rw [hf] at hm
          intro R1 H1 w1
          refine ⟨s.mono w1, ?_⟩
          cases b with
          | false => cases hm; exact p
          | true =>
            rw [if_pos rfl]
            refine ⟨_, rfl, ?_⟩
            simp only at hm
            cases hb : fb ρ with
            | nx ρ' => rw [hb] at hm; exact ⟨o, hm, p⟩
            | ct ρ' => rw [hb] at hm; exact ⟨o, hm, p⟩
            | bk ρ' => rw [hb] at hm; cases hm; exact p
            | rt d => rw [hb] at hm; cases hm; exact p
            | ex C fs ρ' => rw [hb] at hm; cases hm; exact p
            | bad => rw [hb] at hm; cases hm; exact p
        | ex C fs =>
          rw [hf] at hm; cases hm
          exact Post.ev (r := (.ex C fs : Rs Unit)) (g := fun _ => .bad) s p
        | bad => rw [hf] at hm; cases hm; exact p.elim
      refine hc.go R H σ ρ _ s.rh s.sl (q.imp fun b R1 H1 w1 k => ?_)
      obtain ⟨s1, k⟩ := k
      cases b with
      | false => exact k σ R1 H1 s1
      | true =>
        rw [if_pos rfl] at k ⊢
        obtain ⟨o1, e1, k⟩ := k
        refine ⟨fun σ' H' => ∃ R ρ o, RelS X.K X.mg H0 R0 Rl R H' σ' ρ ∧ whF fc fb m ρ = some o ∧ Post X.K X.mg W H0 R0 Rl D' o, fun σ' H' n => ⟨m, Nat.lt_succ_self m, n⟩, hb.go H0 R0 Rl R1 H1 σ ρ _ s1 ?_⟩
        rw [e1]
        cases o1 with
        | nx ρ' => obtain ⟨o, h1, h2⟩ := k; exact fun σ2 R2 H2 s2 => ⟨R2, ρ', o, s2, h1, h2⟩
        | ct ρ' => obtain ⟨o, h1, h2⟩ := k; exact fun σ2 R2 H2 s2 => ⟨R2, ρ', o, s2, h1, h2⟩
        | bk ρ' => exact k
        | rt d => exact k
        | ex C fs ρ' => exact k
        | bad => exact k⟩
end
end PL

/-! the pure layer, part E: comprehensions, defs, errors -/
namespace PL
open PySem PySem.Spec PyProof.Rows L2

/-! ### comprehensions -/
def wipeP (ρ : PEnv) : List Nat → PEnv
  | [] => ρ
  | v :: vs => (wipeP ρ vs).set v .un
theorem SlP.wipe {K : PySem.W.Frag} {mg : Str → Option Value} {R H : Hp} {σ : St} {ρ : PEnv} (s : SlP K mg R H σ ρ) : ∀ vs : List Nat, SlP K mg R H (L2.wipe σ vs) (wipeP ρ vs)
  | [] => s
  | v :: vs => (SlP.wipe s vs).unset
theorem wipe_set_in {σ : St} {i : Nat} {x : Option V} : ∀ {vs : List Nat}, i ∈ vs → L2.wipe (σ.set i x) vs = L2.wipe σ vs
  | v :: vs, h => by
    unfold L2.wipe
    by_cases hi : i ∈ vs
    · rw [wipe_set_in hi]
    · have e : i = v := by
        rcases List.mem_cons.mp h with z | z
        · exact z
        · exact absurd z hi
      subst e
      rw [wipe_out' hi, List.set_set]
where wipe_out' {σ : St} {i : Nat} {x : Option V} : ∀ {vs : List Nat}, i ∉ vs → L2.wipe (σ.set i x) vs = (L2.wipe σ vs).set i x
  | [], _ => rfl
  | v :: vs, h => by
    unfold L2.wipe
    have h1 : i ≠ v := fun z => h (by rw [z]; exact List.mem_cons_self)
    have h2 : i ∉ vs := fun z => h (List.mem_cons_of_mem _ z)
    rw [wipe_out' h2, List.set_comm _ _ h1]
theorem wipe_idem {σ : St} : ∀ {vs : List Nat}, L2.wipe (L2.wipe σ vs) vs = L2.wipe σ vs
  | [] => rfl
  | v :: vs => by
    show (L2.wipe ((L2.wipe σ vs).set v none) vs).set v none = (L2.wipe σ vs).set v none
    by_cases hv : v ∈ vs
    · rw [wipe_set_in hv, wipe_idem]
    · rw [wipe_set_in.wipe_out' hv, wipe_idem, List.set_set]
theorem RelS.ofSl {K : PySem.W.Frag} {mg : Str → Option Value} {R H : Hp} {σ : St} {ρ : PEnv} (rh : Sb R H) (s : SlP K mg R H σ ρ) : RelS K mg R R R R H σ ρ :=
  ⟨rh, s, rh, fun _ => .inr rfl, Sb.refl _, fun i p h e => by
    rcases h with ⟨ds, h⟩ | ⟨ds, h⟩
    · obtain ⟨q, xs, h1, h2, h3, _⟩ := s.ow i ds h
      rw [e] at h1; cases h1; exact h3
    · obtain ⟨q, xs, h1, h2, h3, _⟩ := s.owK i ds h
      rw [e] at h1; cases h1; exact h3⟩
/-- a comprehension's target: it stores in the slots vs alone -/
structure EGc (X : Cx) (tg : Expr) (t : TG) (g : PEnv → D → Option PEnv) (vs : List Nat) : Prop where
  pg : PG X tg t
  go : ∀ (R H : Hp) (σ : St) (ρ ρ' : PEnv) (v : V) (d : D) (Q : St → Hp → Prop), Sb R H → SlP X.K X.mg R H σ ρ → Den X.K X.mg R v d → g ρ d = some ρ' → (∀ σ', SlP X.K X.mg R H σ' ρ' → L2.wipe σ' vs = L2.wipe σ vs → Q σ' H) → t v σ H Q
structure EGcs (X : Cx) (tg : List Expr) (t : TGs) (g : PEnv → List D → Option PEnv) (vs : List Nat) : Prop where
  pg : PGs X tg t
  go : ∀ (R H : Hp) (σ : St) (ρ ρ' : PEnv) (v : List V) (d : List D) (Q : St → Hp → Prop), Sb R H → SlP X.K X.mg R H σ ρ → DenL X.K X.mg R v d → g ρ d = some ρ' → (∀ σ', SlP X.K X.mg R H σ' ρ' → L2.wipe σ' vs = L2.wipe σ vs → Q σ' H) → t v σ H Q
/-- a clause's tests -/
structure ETs (X : Cx) (W : WX) (ifs : List Expr) (t : TT) (f : PEnv → Rs Bool) : Prop where
  pts : L2N.Takes X W → PTs X ifs t
  go : ∀ (R H : Hp) (σ : St) (ρ : PEnv) (Q : Bool → Hp → Prop), Sb R H → SlP X.K X.mg R H σ ρ → After X.K X.mg W σ R H (f ρ) (fun b _ H' => Q b H') → t σ H Q
abbrev W0 : WX := fun _ _ _ _ => False
def compF (g : PEnv → D → Option PEnv) (t : PEnv → Rs Bool) (e : PEnv → Rs D) (ρ : PEnv) : List D → Option (List D)
  | [] => some []
  | d :: ds => match g ρ d with
    | none => none
    | some ρ1 => match t ρ1 with
      | .ok true => match e ρ1 with
        | .ok x => (compF g t e ρ ds).map (x :: ·)
        | _ => none
      | .ok false => compF g t e ρ ds
      | _ => none
def cLc (vs : List Nat) (it : PEnv → Rs (List D)) (g : PEnv → D → Option PEnv) (t : PEnv → Rs Bool) (e : PEnv → Rs D) : PEnv → Rs (List D) := fun ρ => (it ρ).bind fun ds => match compF g t e (wipeP ρ vs) ds with
  | some xs => if okL xs = true then .ok xs else .bad
  | none => .bad
section
variable {X : Cx} {W : WX} {pos : Pos}
theorem egc_name {i : Nat} {x : Str} {vs : List Nat} (hN : X.N.Nodup) (hi : X.N[i]? = some x) (hx : Loc X.env.scope x) (hv : i ∈ vs) (hf : X.fn x = true ∨ X.env.scope.names.lookup x = some .local := by first | exact .inl rfl | exact .inr rfl | assumption) : EGc X (.Name x pos) (gName i) (gN i) vs :=
  ⟨pg_name hN hi hx hf, fun R H σ ρ ρ' v d Q rh s dv e k => by cases e; exact k _ ((RelS.ofSl rh s).set dv).sl (wipe_set_in hv)⟩
theorem egcs_nil {vs : List Nat} : EGcs X [] gNil gNl vs := ⟨pgs_nil, fun R H σ ρ ρ' v d Q rh s dv e k => by
  cases dv with
  | nil => cases e; exact ⟨rfl, k σ s rfl⟩
  | cons => cases e⟩
theorem egcs_cons {vs : List Nat} {a : Expr} {es : List Expr} {t : TG} {u : TGs} {g : PEnv → D → Option PEnv} {r : PEnv → List D → Option PEnv} (h1 : EGc X a t g vs) (h2 : EGcs X es u r vs) (hs : (assignEach (a :: es) X.env).map (·.2) = assign a X.env :: (assignEach es X.env).map (·.2) := by rfl) : EGcs X (a :: es) (gCons t u) (gCn g r) vs :=
  ⟨pgs_cons h1.pg h2.pg hs, fun R H σ ρ ρ' v d Q rh s dv e k => by
  cases dv with
  | nil => cases e
  | @cons y ys x xs hd hs' =>
    cases hg : g ρ x with
    | none => simp only [gCn, hg] at e; cases e
    | some ρ1 =>
      simp only [gCn, hg] at e
      exact ⟨y, ys, rfl, h1.go R H σ ρ ρ1 y x _ rh s hd hg fun σ1 s1 z1 => h2.go R H σ1 ρ1 ρ' ys xs _ rh s1 hs' e fun σ2 s2 z2 => k σ2 s2 (z2.trans z1)⟩⟩
theorem egc_tup {vs : List Nat} {es : List Expr} {kx : Nat} {u : TGs} {n : Nat} {r : PEnv → List D → Option PEnv} (hc : X.calm = true) (h : EGcs X es u r vs) (hn : (assignEach es X.env).length = n := by rfl) (hst : (assignEach es X.env).findIdx? (·.1) = none := by rfl) : EGc X (.Tuple es kx pos) (gTup X.K n u) (gTp n r) vs :=
  ⟨pg_tup hc h.pg hn hst, fun R H σ ρ ρ' v d Q rh s dv e k => by
  cases dv with
  | @tup a xs ds h1 h2 =>
    simp only [gTp] at e
    split at e
    · rename_i hl
      exact ⟨a, xs, rfl, rh.t h1, by rw [h2.len]; exact hl, h.go R H σ ρ ρ' xs ds Q rh s h2 e k⟩
    · cases e
  | _ => cases e⟩
theorem ets_nil : ETs X W [] tYes (fun _ => .ok true) := ⟨fun tk => pts_nil, fun R H σ ρ Q rh s k => After.ok rh k⟩
theorem ets_one {c : Expr} {t : TT} {f : PEnv → Rs Bool} (h : ET X W c t f) : ETs X W [c] t f := ⟨fun tk => pts_one (h.pt tk), h.go⟩
theorem lc_go {tg iter : Expr} {vs : List Nat} {wi : TI} {g : TG} {tt : TT} {te : TE} {fi : PEnv → Rs (List D)} {gg : PEnv → D → Option PEnv} {ft : PEnv → Rs Bool} {fe : PEnv → Rs D} (hi : EI X W tg iter wi fi)
    (hg : ∀ (R H : Hp) (σ : St) (ρ ρ' : PEnv) (v : V) (d : D) (Q : St → Hp → Prop), Sb R H → SlP X.K X.mg R H σ ρ → Den X.K X.mg R v d → gg ρ d = some ρ' → (∀ σ', SlP X.K X.mg R H σ' ρ' → L2.wipe σ' vs = L2.wipe σ vs → Q σ' H) → g v σ H Q)
    (ht : ∀ (R H : Hp) (σ : St) (ρ : PEnv) (Q : Bool → Hp → Prop), Sb R H → SlP X.K X.mg R H σ ρ → After X.K X.mg W0 σ R H (ft ρ) (fun b _ H' => Q b H') → tt σ H Q)
    (he : ∀ (R H : Hp) (σ : St) (ρ : PEnv) (Q : VK), Sb R H → SlP X.K X.mg R H σ ρ → After X.K X.mg W0 σ R H (fe ρ) (fun d R' H' => ∀ v, Den X.K X.mg R' v d → Q v H') → te σ H Q)
    (R H : Hp) (σ : St) (ρ : PEnv) (Q : VK) (rh : Sb R H) (s : SlP X.K X.mg R H σ ρ)
    (k : After X.K X.mg W σ R H (cLc vs fi gg ft fe ρ) (fun ds R' H' => ∀ p xs, H p = none → R' p = none → H' p = some (.lst xs) → DenL X.K X.mg R' xs ds → Q (.ref p) H')) : tLc wi g tt te vs σ H Q := by
  refine hi.go R H σ ρ _ rh s ((After.bind k).imp fun ds Rj H1 wj k1 J wk Dl hDl => ?_)
  cases hc : compF gg ft fe (wipeP ρ vs) ds with
  | none => rw [hc] at k1; exact k1.elim
  | some all =>
    rw [hc] at k1
    simp only at k1
    by_cases hz : okL all = true
    · rw [if_pos hz] at k1
      have hall : all.length ≤ 16777216 := of_decide_eq_true hz
      refine ⟨fun i m H2 => m = ds.length - i ∧ i ≤ ds.length ∧ ∃ R2 acc done rest, Wd Rj H1 R2 H2 ∧ R2 Dl = none ∧ H2 Dl = some (.lst acc) ∧ DenL X.K X.mg R2 acc done ∧ compF gg ft fe (wipeP ρ vs) (ds.drop i) = some rest ∧ done ++ rest = all,
        ⟨ds.length, by simp, Nat.zero_le _, Rj, [], [], all, Wd.out wj.rh hDl, wj.rh.no hDl, upd_same, .nil, by rw [List.drop_zero]; exact hc, rfl⟩, ?_⟩
      rintro i m H2 ⟨rfl, hi, R2, acc, done, rest, w2, nD, eD, dn, cr, ea⟩
      obtain ⟨wk1, wk2⟩ := wk i R2 H2 w2.rr w2.rh
      by_cases hlt : i < ds.length
      · obtain ⟨wk3, wk4⟩ := wk1 ds[i] (List.getElem?_eq_getElem hlt)
        rw [List.drop_eq_getElem_cons hlt] at cr
        refine .inr ⟨wk3, fun H3 => i + 1 ≤ ds.length ∧ ∃ R3 acc done rest, Wd Rj H1 R3 H3 ∧ R3 Dl = none ∧ H3 Dl = some (.lst acc) ∧ DenL X.K X.mg R3 acc done ∧ compF gg ft fe (wipeP ρ vs) (ds.drop (i + 1)) = some rest ∧ done ++ rest = all,
          fun H3 n => ⟨ds.length - (i + 1), by omega, rfl, n⟩, fun x H3 y => ?_⟩
        obtain ⟨R3, w3, dx⟩ := wk4 x H3 y
        have w13 := w2.tr w3
        have keepD : ∀ {Ra Ha Rb Hb : Hp}, Wd Ra Ha Rb Hb → Ra Dl = none → (∃ o, Ha Dl = some o) → Rb Dl = none := fun {Ra Ha Rb Hb} w n e => by
          obtain ⟨o, e⟩ := e
          rcases w.nw Dl with z | z
          · rw [e] at z; cases z
          · rw [z]; exact n
        have nD3 := keepD w3 nD ⟨_, eD⟩
        have eD3 := w3.hh _ _ eD
        have s3 : SlP X.K X.mg R3 H3 (L2.wipe σ vs) (wipeP ρ vs) := ((s.mono rh (wj.tr w13)).wipe vs)
        unfold compF at cr
        cases hgd : gg (wipeP ρ vs) ds[i] with
        | none => rw [hgd] at cr; cases cr
        | some ρ1 =>
          rw [hgd] at cr
          simp only at cr
          refine hg R3 H3 _ _ ρ1 x ds[i] _ w3.rh s3 dx hgd fun σ1 s1 z1 => ⟨z1.trans wipe_idem, ?_⟩
          refine ht R3 H3 σ1 ρ1 _ w3.rh s1 ?_
          cases hft : ft ρ1 with
          | ok b =>
            rw [hft] at cr
            intro R4 H4 w4
            have nD4 := keepD w4 nD3 ⟨_, eD3⟩
            have eD4 := w4.hh _ _ eD3
            cases b with
            | false =>
              rw [if_neg Bool.false_ne_true]
              exact ⟨hlt, R4, acc, done, rest, w13.tr w4, nD4, eD4, dn.mono (w3.tr w4).rr, cr, ea⟩
            | true =>
              rw [if_pos rfl]
              simp only at cr
              refine he R4 H4 σ1 ρ1 _ w4.rh (s1.mono w3.rh w4) ?_
              cases hfe : fe ρ1 with
              | ok c =>
                rw [hfe] at cr
                simp only at cr
                cases hr : compF gg ft fe (wipeP ρ vs) (ds.drop (i + 1)) with
                | none => rw [hr] at cr; cases cr
                | some rest2 =>
                  rw [hr] at cr
                  cases cr
                  intro R5 H5 w5 v dv
                  have nD5 := keepD w5 nD4 ⟨_, eD4⟩
                  have eD5 := w5.hh _ _ eD4
                  have w15 := (w13.tr w4).tr w5
                  have dn5 := dn.mono ((w3.tr w4).tr w5).rr
                  refine ⟨acc, eD5, ?_, hlt, R5, acc ++ [v], done ++ [c], rest2, ⟨fun b o z => Sb.mut w15.hh hDl b o z, w15.rr, fun b o z => ?_, w15.nw⟩, nD5, upd_same, dn5.app (.cons dv .nil), rfl, by rw [List.append_assoc]; exact ea⟩
                  · rw [sizeLine_eq, dn5.len]
                    have := congrArg List.length ea
                    rw [List.length_append, List.length_cons] at this
                    omega
                  · rw [upd_ne (ne_of_none z nD5)]; exact w15.rh b o z
              | ex C fs => rw [hfe] at cr; cases cr
              | bad => rw [hfe] at cr; cases cr
          | ex C fs => rw [hft] at cr; cases cr
          | bad => rw [hft] at cr; cases cr
      · have e : i = ds.length := by omega
        subst e
        rw [List.drop_length] at cr
        cases cr
        rw [List.append_nil] at ea
        subst ea
        exact .inl ⟨wk2 (Nat.le_refl _), k1 R2 H2 w2 Dl acc (wj.hh.no hDl) nD eD dn⟩
    · rw [if_neg hz] at k1; exact k1.elim
/-- a block's context -/
abbrev blkX (X : Cx) (scope : Scope) (s : Shared) (H : Hp) (C : Addr) (cl : List (Str × Addr)) (fp : List Addr) : Cx := X.blk s H scope (compEnvC scope cl C X.env) fp
/-- what is asked in each of the contexts at once -/
def tAllE (X : Cx) (scope : Scope) (e : Expr) : TE := fun σ H Q => ∀ (s0 : Shared) (H0 : Hp) (C : Addr) (cl : List (Str × Addr)) (fp : List Addr) (pins : List (Addr × Obj)) (s : Shared), Inv (blkX X scope s0 H0 C cl fp) pins σ H s →
  wpAny (model (blkX X scope s0 H0 C cl fp).prog (blkX X scope s0 H0 C cl fp).w) (blkX X scope s0 H0 C cl fp).A (eval e (blkX X scope s0 H0 C cl fp).env) (EP (blkX X scope s0 H0 C cl fp) pins σ Q) (blkX X scope s0 H0 C cl fp).xe s
def tAllT (X : Cx) (scope : Scope) (ifs : List Expr) : TT := fun σ H Q => ∀ (s0 : Shared) (H0 : Hp) (C : Addr) (cl : List (Str × Addr)) (fp : List Addr) (pins : List (Addr × Obj)) (s : Shared), Inv (blkX X scope s0 H0 C cl fp) pins σ H s →
  wpAny (model (blkX X scope s0 H0 C cl fp).prog (blkX X scope s0 H0 C cl fp).w) (blkX X scope s0 H0 C cl fp).A (forIn ifs true fun c r => if r = true then do let ok ← isTrue c (blkX X scope s0 H0 C cl fp).env (eval c (blkX X scope s0 H0 C cl fp).env); pure (ForInStep.yield ok) else pure (ForInStep.yield r)) (TP (blkX X scope s0 H0 C cl fp) pins σ Q) (blkX X scope s0 H0 C cl fp).xe s
def tAllG (X : Cx) (scope : Scope) (tg : Expr) : TG := fun v σ H Q => ∀ (s0 : Shared) (H0 : Hp) (C : Addr) (cl : List (Str × Addr)) (fp : List Addr) (pins : List (Addr × Obj)) (s : Shared) (u : Value), Inv (blkX X scope s0 H0 C cl fp) pins σ H s → RelV v u →
  wpAny (model (blkX X scope s0 H0 C cl fp).prog (blkX X scope s0 H0 C cl fp).w) (blkX X scope s0 H0 C cl fp).A (assign tg (blkX X scope s0 H0 C cl fp).env u) (fun _ s' => ∃ σ' H', Inv (blkX X scope s0 H0 C cl fp) pins σ' H' s' ∧ Q σ' H') (blkX X scope s0 H0 C cl fp).xe s
/-- the parts of a comprehension in each of its contexts -/
structure LcP (X : Cx) (scope : Scope) (elt tg : Expr) (ifs : List Expr) (vs : List Nat) (gg : PEnv → D → Option PEnv) (ft : PEnv → Rs Bool) (fe : PEnv → Rs D) : Prop where
  g : ∀ (s : Shared) (H : Hp) (C : Addr) (cl : List (Str × Addr)) (fp : List Addr), ∃ t, EGc (blkX X scope s H C cl fp) tg t gg vs
  t : ∀ (s : Shared) (H : Hp) (C : Addr) (cl : List (Str × Addr)) (fp : List Addr), ∃ t, ETs (blkX X scope s H C cl fp) W0 ifs t ft
  e : ∀ (s : Shared) (H : Hp) (C : Addr) (cl : List (Str × Addr)) (fp : List Addr), ∃ t, EE (blkX X scope s H C cl fp) W0 elt t fe
section
variable {scope : Scope} {elt tg iter : Expr} {ifs : List Expr} {vs : List Nat} {gg : PEnv → D → Option PEnv} {ft : PEnv → Rs Bool} {fe : PEnv → Rs D}
theorem LcP.pe (L : LcP X scope elt tg ifs vs gg ft fe) (s : Shared) (H : Hp) (C : Addr) (cl : List (Str × Addr)) (fp : List Addr) : PE (blkX X scope s H C cl fp) elt (tAllE X scope elt) := ⟨fun pins s1 σ H Q I h => h _ _ _ _ _ pins s1 I⟩
theorem LcP.pg (L : LcP X scope elt tg ifs vs gg ft fe) (s : Shared) (H : Hp) (C : Addr) (cl : List (Str × Addr)) (fp : List Addr) : PG (blkX X scope s H C cl fp) tg (tAllG X scope tg) := ⟨fun pins s1 σ H v u Q I r h => h _ _ _ _ _ pins s1 u I r⟩
theorem LcP.pt (L : LcP X scope elt tg ifs vs gg ft fe) (s : Shared) (H : Hp) (C : Addr) (cl : List (Str × Addr)) (fp : List Addr) : PTs (blkX X scope s H C cl fp) ifs (tAllT X scope ifs) := ⟨fun pins s1 σ H Q I h => h _ _ _ _ _ pins s1 I⟩
theorem LcP.goE (L : LcP X scope elt tg ifs vs gg ft fe) (R H : Hp) (σ : St) (ρ : PEnv) (Q : VK) (rh : Sb R H) (s : SlP X.K X.mg R H σ ρ) (k : After X.K X.mg W0 σ R H (fe ρ) (fun d R' H' => ∀ v, Den X.K X.mg R' v d → Q v H')) : tAllE X scope elt σ H Q := fun s0 H0 C cl fp pins s1 I => by
  obtain ⟨t, h⟩ := L.e s0 H0 C cl fp
  exact (h.pe takesN).run pins s1 σ H Q I (h.go R H σ ρ Q rh s k)
theorem LcP.goT (L : LcP X scope elt tg ifs vs gg ft fe) (R H : Hp) (σ : St) (ρ : PEnv) (Q : Bool → Hp → Prop) (rh : Sb R H) (s : SlP X.K X.mg R H σ ρ) (k : After X.K X.mg W0 σ R H (ft ρ) (fun b _ H' => Q b H')) : tAllT X scope ifs σ H Q := fun s0 H0 C cl fp pins s1 I => by
  obtain ⟨t, h⟩ := L.t s0 H0 C cl fp
  exact (h.pts takesN).run pins s1 σ H Q I (h.go R H σ ρ Q rh s k)
theorem LcP.goG (L : LcP X scope elt tg ifs vs gg ft fe) (R H : Hp) (σ : St) (ρ ρ' : PEnv) (v : V) (d : D) (Q : St → Hp → Prop) (rh : Sb R H) (s : SlP X.K X.mg R H σ ρ) (dv : Den X.K X.mg R v d) (e : gg ρ d = some ρ') (k : ∀ σ', SlP X.K X.mg R H σ' ρ' → L2.wipe σ' vs = L2.wipe σ vs → Q σ' H) : tAllG X scope tg v σ H Q := fun s0 H0 C cl fp pins s1 u I r => by
  obtain ⟨t, h⟩ := L.g s0 H0 C cl fp
  exact h.pg.run pins s1 σ H v u Q I r (h.go R H σ ρ ρ' v d Q rh s dv e k)
theorem en_lc {own : List (Str × Nat)} {wi : TI} {fi : PEnv → Rs (List D)} (hc : X.calm = true) (hN : X.N.Nodup) (hi : EI X W tg iter wi fi) (ok : BlkOk X.N X.env.scope scope own) (L : LcP X scope elt tg ifs (own.map (·.2)) gg ft fe)
    (hs : ∀ x, foldedSetIterable iter X.env x = pure x := by intro _; rfl) :
    EN X W (.ListComp elt [⟨tg, iter, ifs, 0⟩] scope pos) (tLc wi (tAllG X scope tg) (tAllT X scope ifs) (tAllE X scope elt) (own.map (·.2))) (cLc (own.map (·.2)) fi gg ft fe) :=
  ⟨fun tk => pe_lc hc hN (hi.pi tk) ok L.pg L.pt L.pe hs, fun R H σ ρ Q rh s k => lc_go hi L.goG L.goT L.goE R H σ ρ Q rh s k⟩
theorem es_setLc {i : Nat} {y : Str} {py spos : Pos} {own : List (Str × Nat)} {wi : TI} {fi : PEnv → Rs (List D)} (hc : X.calm = true) (hN : X.N.Nodup) (hy : X.N[i]? = some y) (hyl : X.env.scope.names.lookup y = some .local)
    (hsw : swapsWith (.ListComp elt [⟨tg, iter, ifs, 0⟩] scope pos) (some (.Name y py)) spos.line X.env = pure true) (hi : EI X W tg iter wi fi) (ok : BlkOk X.N X.env.scope scope own) (L : LcP X scope elt tg ifs (own.map (·.2)) gg ft fe) (hs : ∀ x, foldedSetIterable iter X.env x = pure x := by intro _; rfl) :
    ES X W (.Assign [.Name y py] (.ListComp elt [⟨tg, iter, ifs, 0⟩] scope pos) spos) (tAsg (tLc wi (tAllG X scope tg) (tAllT X scope ifs) (tAllE X scope elt) (own.map (·.2))) (gName i)) (sSetN i (cLc (own.map (·.2)) fi gg ft fe)) :=
  es_setRN (fun tk po => ps_setLc hc hN hy hyl hsw (hi.pi tk) ok L.pg L.pt L.pe hs) (lc_go hi L.goG L.goT L.goE)
theorem es_setLcF {i : Nat} {y : Str} {py spos : Pos} {own : List (Str × Nat)} {wi : TI} {fi : PEnv → Rs (List D)} (hc : X.calm = true) (hN : X.N.Nodup) (hy : X.N[i]? = some y) (hyl : X.env.scope.names.lookup y = some .local)
    (hsw : swapsWith (.ListComp elt [⟨tg, iter, ifs, 0⟩] scope pos) (some (.Name y py)) spos.line X.env = pure true) (hi : EI X W tg iter wi fi) (ok : BlkOk X.N X.env.scope scope own) (L : LcP X scope elt tg ifs (own.map (·.2)) gg ft fe) (hs : ∀ x, foldedSetIterable iter X.env x = pure x := by intro _; rfl) :
    ES X W (.Assign [.Name y py] (.ListComp elt [⟨tg, iter, ifs, 0⟩] scope pos) spos) (tAsg (tLc wi (tAllG X scope tg) (tAllT X scope ifs) (tAllE X scope elt) (own.map (·.2))) (gName i)) (sSet i (nl (cLc (own.map (·.2)) fi gg ft fe))) :=
  es_setR (es_setLc hc hN hy hyl hsw hi ok L hs).ps (en_lc (pos := pos) hc hN hi ok L hs).ee.go
end
end

/-! ### defs -/
def runF (n : Nat) (fb : PEnv → Out) (ds : List D) : Rs D := match fb (ds.map SV.fz ++ List.replicate (n - ds.length) SV.un) with
  | .nx _ => .ok .non
  | .rt d => .ok d
  | .ex C fs _ => .ex C fs
  | _ => .bad
theorem start_sl {K : PySem.W.Frag} {mg : Str → Option Value} {R H : Hp} {N : List Str} {vs : List V} {ds : List D} (rh : Sb R H) (dl : DenL K mg R vs ds) : SlP K mg R H (L2.start N vs) (ds.map SV.fz ++ List.replicate (N.length - ds.length) SV.un) := by
  have notOw : ∀ (i : Nat) x, (ds.map SV.fz ++ List.replicate (N.length - ds.length) SV.un)[i]? = some x → x = .un ∨ ∃ d, x = .fz d ∧ ds[i]? = some d := fun i x e => by
    by_cases hi : i < ds.length
    · rw [List.getElem?_append_left (by simpa using hi), List.getElem?_map] at e
      cases hd : ds[i]? with
      | none => rw [hd] at e; cases e
      | some d => rw [hd] at e; cases e; exact .inr ⟨d, rfl, rfl⟩
    · rw [List.getElem?_append_right (by simpa using hi), List.getElem?_replicate] at e
      split at e
      · cases e; exact .inl rfl
      · cases e
  refine ⟨by unfold L2.start; simp [dl.len], fun i d e => ?_, fun i ds' e => ?_, fun i ks e => ?_, fun i j p hn h1 h2 e1 e2 => ?_, fun i a d CA C fs e => ?_⟩
  · rcases notOw i _ e with z | ⟨d', z, hd⟩
    · cases z
    · cases z
      obtain ⟨v, hv, dv⟩ := dl.get hd
      refine ⟨v, ?_, dv⟩
      unfold L2.start
      have hl := (List.getElem?_eq_some_iff.mp hv).1
      rw [List.getElem?_append_left (by simpa using hl), List.getElem?_map, hv]; rfl
  · rcases notOw i _ e with z | ⟨d', z, hd⟩ <;> cases z
  · rcases notOw i _ e with z | ⟨d', z, hd⟩ <;> cases z
  · rcases h1 with ⟨x, h1⟩ | ⟨x, h1⟩ <;> (rcases notOw i _ h1 with z | ⟨d', z, hd⟩ <;> cases z)
  · rcases notOw i _ e with z | ⟨d', z, hd⟩ <;> cases z
theorem run_go {K : PySem.W.Frag} {mg : Str → Option Value} {R H : Hp} {N : List Str} {vs : List V} {ds : List D} {fb : PEnv → Out} {t : TS} {Q : VK} {E : XK} (rh : Sb R H) (dl : DenL K mg R vs ds)
    (go : ∀ (H0 R0 Rl R H : Hp) (σ : St) (ρ : PEnv) (D' : Ends), RelS K mg H0 R0 Rl R H σ ρ → Post K mg (fun cls d _ H => E cls d H) H0 R0 Rl D' (fb ρ) → t D' σ H) (a : AfterF K mg R H Q E (runF N.length fb ds)) :
    t { nx := fun _ H' => Q .non H', rt := Q } (L2.start N vs) H := by
  have s : RelS K mg H R R R H (L2.start N vs) (ds.map SV.fz ++ List.replicate (N.length - ds.length) SV.un) := ⟨rh, start_sl rh dl, Sb.refl _, fun _ => .inr rfl, Sb.refl _, fun i p h e => by
    have sl := start_sl (N := N) rh dl
    rcases h with ⟨x, h⟩ | ⟨x, h⟩
    · exfalso
      by_cases hi : i < ds.length
      · rw [List.getElem?_append_left (by simpa using hi), List.getElem?_map] at h
        cases hd : ds[i]? with
        | none => rw [hd] at h; cases h
        | some d => rw [hd] at h; cases h
      · rw [List.getElem?_append_right (by simpa using hi), List.getElem?_replicate] at h
        split at h <;> cases h
    · exfalso
      by_cases hi : i < ds.length
      · rw [List.getElem?_append_left (by simpa using hi), List.getElem?_map] at h
        cases hd : ds[i]? with
        | none => rw [hd] at h; cases h
        | some d => rw [hd] at h; cases h
      · rw [List.getElem?_append_right (by simpa using hi), List.getElem?_replicate] at h
        split at h <;> cases h⟩
  refine go H R R R H _ _ _ s ?_
  unfold runF at a
  cases ho : fb (ds.map SV.fz ++ List.replicate (N.length - ds.length) SV.un) with
  | nx ρ => rw [ho] at a; exact fun σ' R' H' s' => a R' H' .non ⟨s'.h0, s'.rl, s'.rh, s'.r0⟩ .non
  | rt d => rw [ho] at a; exact fun v R' H' h0 r1 r0 rl dv => a R' H' v ⟨h0, rl, r1, r0⟩ dv
  | ex C fs ρ => rw [ho] at a; exact fun σ' R' H' CA dd xs s' e1 e2 e3 e4 => a R' H' CA dd xs ⟨s'.h0, s'.rl, s'.rh, s'.r0⟩ e1 e2 e3 e4
  | bk ρ => rw [ho] at a; exact a.elim
  | ct ρ => rw [ho] at a; exact a.elim
  | bad => rw [ho] at a; exact a.elim
theorem spF_len {K : PySem.W.Frag} {mg : Str → Option Value} {n : Nat} {F : List D → Rs D} : ∀ vs H Q E, spF K mg n F vs H Q E → vs.length = n := fun vs H Q E h => by
  obtain ⟨ds, R, h1, _, h2, _⟩ := h
  rw [h2.len]; exact h1
section
variable {P : Program} {w : World} {K : PySem.W.Frag} {mg : Str → Option Value} {base : Heap}
theorem fn_def {x qual nm : Str} {st : Stmt} {f : Addr} {fd : FuncData} {N ps : List Str} {k : Nat} {fb : PEnv → Out} (F : Fun K x qual st f fd) (S : FnScope N ps (defScope st)) (bd : Binds K fd ps []) (hm : mg nm = some (.ref f))
    (hbody : ∀ (cdv : Value) (A : Around) (outer : List Env) (s : Shared) (H : Hp) (E : XK), Room k (A.deeper (envOfC qual (defScope st) s.heap.objs.size f cdv)) →
      ∃ t, ESs (cxOf (L2N.CX P w) P w K mg base N qual (defScope st) f cdv A outer s H E) (fun cls d _ H => E cls d H) (defBody st) t fb) : FnP P w K mg base (k + 1) nm ps.length (runF N.length fb) := by
  obtain ⟨oc, od, kV, doc, pm, an, cdv, ct, osl, rfl, lk, hcd⟩ := F.ex
  refine ⟨f, _, ps, hm, F.kp, bd, fn_of lk hcd S spF_len fun A outer s H vs Q E hr hsp => ?_⟩
  obtain ⟨t, h⟩ := hbody cdv A outer s H E hr
  obtain ⟨ds, R, hl, rh, dl, a⟩ := hsp
  exact ⟨t, h.ps (L2N.takes_of rfl rfl rfl rfl) (passes_of rfl), run_go rh dl h.go a⟩
/-- .. where an exception is handled -/
structure FnHP (P : Program) (w : World) (K : PySem.W.Frag) (mg : Str → Option Value) (base : Heap) (k : Nat) (x : Str) (n : Nat) (F : List D → Rs D) : Prop where
  ex : ∃ f fd ps, mg x = some (.ref f) ∧ PySem.W.keepIn K (.ref f) = true ∧ Binds K fd ps [] ∧ L2H.FnH P w K mg base (L2N.CX P w) k f fd ps (spF K mg n F)
theorem fn_defH {x qual nm : Str} {st : Stmt} {f : Addr} {fd : FuncData} {N ps : List Str} {k : Nat} {fb : PEnv → Out} (F : Fun K x qual st f fd) (S : FnScope N ps (defScope st)) (bd : Binds K fd ps []) (hm : mg nm = some (.ref f))
    (hbody : ∀ (cdv : Value) (A : Around) (outer : List Env) (s : Shared) (H : Hp) (E : XK) (p : Addr × Obj), L2H.Hot1 A p → L2H.RoomH k (A.deeper (envOfC qual (defScope st) s.heap.objs.size f cdv)) →
      ∃ t, ESs (L2H.cxH (L2N.CX P w) P w K mg base N qual (defScope st) f cdv A outer s H E p) (fun cls d _ H => E cls d H) (defBody st) t fb) : FnHP P w K mg base (k + 1) nm ps.length (runF N.length fb) := by
  obtain ⟨oc, od, kV, doc, pm, an, cdv, ct, osl, rfl, lk, hcd⟩ := F.ex
  refine ⟨f, _, ps, hm, F.kp, bd, L2H.fn_ofH lk hcd S spF_len fun A outer s H vs Q E p hot hr hsp => ?_⟩
  obtain ⟨t, h⟩ := hbody cdv A outer s H E p hot hr
  obtain ⟨ds, R, hl, rh, dl, a⟩ := hsp
  exact ⟨t, h.ps (L2N.takes_of rfl rfl rfl rfl) (passes_of rfl), run_go rh dl h.go a⟩
theorem fn_bad {x qual nm : Str} {st : Stmt} {f : Addr} {fd : FuncData} {ps : List Str} (F : Fun K x qual st f fd) (bd : Binds K fd ps []) (hm : mg nm = some (.ref f)) : FnP P w K mg base 0 nm ps.length (fun _ => .bad) :=
  ⟨f, fd, ps, hm, F.kp, bd, ⟨spF_len, fun A outer s H args us vs Q E hr e0 hb r h => by obtain ⟨_, _, _, _, _, z⟩ := h; exact z.elim⟩⟩
/-- the same function said otherwise -/
theorem FnP.cong {k n : Nat} {nm : Str} {F G : List D → Rs D} (h : FnP P w K mg base k nm n F) (e : F = G) : FnP P w K mg base k nm n G := e ▸ h
end
section
variable {X : Cx} {W : WX} {e : Expr} {es : List Expr} {tr : TA} {fr : PEnv → Rs (List D)} {pos : Pos}
/-- a call where an exception is handled -/
theorem ee_callH {kk : Nat} {n : Nat} {F : List D → Rs D} {x : Str} {p : Pos} (G : FnHP X.prog X.w X.K X.mg X.base kk x n F) (hr : L2H.RoomH kk X.A) (hot : L2H.HotC X) (hg : Gl X x) (h : EA X W (e :: es) tr fr)
    (hdb : (x == ("__debug__" : Str)) = false := by decide) (he : starEach (e :: es) X.env = (false, eval e X.env) :: starEach es X.env := by rfl) (hpl : (backTo pos (starEach es X.env)).any (·.1) = false := by rfl) :
    EE X W (.Call (.Name x p) (e :: es) [] pos) (tCallS (spF X.K X.mg n F) (fun σ => WE W σ) tr) (eFn n F fr) := by
  obtain ⟨f, fd, ps, h1, h2, h3, h4⟩ := G.ex
  refine ⟨fun tk => L2H.pe_callH h4 hr hot hg h1 h2 h3 (fun σ => L2N.passAt tk σ) (h.pa tk) hdb he hpl, fun R H σ ρ Q rh s k => ?_⟩
  have q := call_go h R H σ ρ Q rh s k
  unfold tFn tCallSD at q
  simp only [List.append_nil] at q
  exact q
/-- for over a range, there -/
structure EIh (X : Cx) (W : WX) (tg iter : Expr) (wi : TI) (f : PEnv → Rs (List D)) : Prop where
  pi : L2N.Takes X W → L2H.PIH X tg iter wi
  go : ∀ (R H : Hp) (σ : St) (ρ : PEnv) (Q : It → Hp → Prop), Sb R H → SlP X.K X.mg R H σ ρ → After X.K X.mg W σ R H (f ρ) (fun ds R' H' => ∀ J, Walks X.K X.mg J R' ds → Q J H') → wi σ H Q
theorem ei_r1H {tg a : Expr} {ta : TA} {fa : PEnv → Rs (List D)} {p : Pos} (hg : Gl X "range") (hm : X.mg "range" = none) (h : EA X W [a] ta fa) (hs : starEach [a] X.env = [(false, eval a X.env)] := by rfl) : EIh X W tg (.Call (.Name "range" p) [a] [] pos) (iRng1 ta) (iR1 fa) :=
  ⟨fun tk => L2H.pi_range1H hg hm (h.pa tk) hs, (ei_r1 (X := X) (W := W) (tg := tg) (pos := pos) (p := p) hg hm h hs).go⟩
theorem es_forH {tg iter : Expr} {body : List Stmt} {wi : TI} {g : TG} {tb : TS} {fi : PEnv → Rs (List D)} {gg : PEnv → D → Option PEnv} {fb : PEnv → Out} (hc : L2H.HotC X) (hi : EIh X W tg iter wi fi) (hg : EG X tg g gg) (hb : ESs X W body tb fb)
    (hs : ∀ x, foldedSetIterable iter X.env x = pure x := by intro _; rfl) : ES X W (.For tg iter body [] pos) (tFor wi g tb) (sFor fi gg fb) :=
  ⟨fun tk po => L2H.ps_forH po hc (hi.pi tk) hg.pg (hb.ps tk po) hs, fun H0 R0 Rl R H σ ρ D' s p => hi.go R H σ ρ _ s.rh s.sl ((p.ev s).imp fun ds R1 H1 w1 k J wk =>
    for_go hg (fun R H σ ρ D2 s2 p2 => hb.go H0 R0 R1 R H σ ρ D2 s2 p2) wk k.1.self (k.2.low k.1.rl))⟩
end
end PL

/-! the pure layer, part F: the program's own errors -/
namespace PL
open PySem PySem.Spec PyProof.Rows L2

/-! ### an error's __init__ -/
/-- while it is filled: since H1, R1 (there the error at a has no dict) -/
structure IniS (K : PySem.W.Frag) (mg : Str → Option Value) (CA a : Addr) (H1 R1 R H : Hp) (fs : List (Str × D)) : Prop where
  rr : Sb R1 R
  rh : Sb R H
  ra : R a = none
  nw : ∀ b, H1 b = none ∨ R b = R1 b
  hh : ∀ b o, H1 b = some o → b ≠ a → H b = some o
  st : (fs = [] ∧ H a = some (exo a CA none)) ∨ ∃ d xs, H a = some (exo a CA (some d)) ∧ H1 d = none ∧ d ≠ a ∧ R d = none ∧ H d = some (exd d xs) ∧ DenF K mg R xs fs ∧ fs.length ≤ 900
theorem IniS.mono {K : PySem.W.Frag} {mg : Str → Option Value} {CA a : Addr} {H1 R1 R H R' H' : Hp} {fs : List (Str × D)} (h : IniS K mg CA a H1 R1 R H fs) (w : Wd R H R' H') : IniS K mg CA a H1 R1 R' H' fs where
  rr := h.rr.tr w.rr
  rh := w.rh
  ra := by
    rcases w.nw a with z | z
    · rcases h.st with ⟨_, e⟩ | ⟨_, _, e, _⟩ <;> (rw [e] at z; cases z)
    · rw [z]; exact h.ra
  nw := fun b => by
    rcases w.nw b with z | z
    · cases q : H1 b with
      | none => exact .inl rfl
      | some o =>
        exfalso
        by_cases hb : b = a
        · subst hb
          rcases h.st with ⟨_, e⟩ | ⟨_, _, e, _⟩ <;> (rw [e] at z; cases z)
        · rw [h.hh b o q hb] at z; cases z
    · rcases h.nw b with g | g
      · exact .inl g
      · exact .inr (z.trans g)
  hh := fun b o e n => w.hh b o (h.hh b o e n)
  st := by
    rcases h.st with ⟨e1, e2⟩ | ⟨d, xs, e1, e2, e3, e4, e5, e6, e7⟩
    · exact .inl ⟨e1, w.hh _ _ e2⟩
    · refine .inr ⟨d, xs, w.hh _ _ e1, e2, e3, ?_, w.hh _ _ e5, e6.mono w.rr, e7⟩
      rcases w.nw d with z | z
      · rw [e5] at z; cases z
      · rw [z]; exact e4
theorem SlP.noOw {K : PySem.W.Frag} {mg : Str → Option Value} {R H R' H' : Hp} {σ : St} {ρ : PEnv} (s : SlP K mg R H σ ρ) (n : ∀ i, ¬ Ow ρ i) (r : Sb R R') : SlP K mg R' H' σ ρ where
  len := s.len
  fz := fun i d e => by obtain ⟨v, h1, h2⟩ := s.fz i d e; exact ⟨v, h1, h2.mono r⟩
  ow := fun i ds e => absurd (.inl ⟨ds, e⟩) (n i)
  owK := fun i ds e => absurd (.inr ⟨ds, e⟩) (n i)
  dj := s.dj
  en := fun i a d CA C fs e => by obtain ⟨h1, hm, dd, xs, h2, h3, h4⟩ := s.en i a d CA C fs e; exact ⟨h1, hm, dd, xs, h2, r _ _ h3, h4.mono r⟩
/-- self.f = e, one after another -/
structure EIs (X : Cx) (CA : Addr) (sts : List Stmt) (t : TS) (f : PEnv → List (Str × D) → Rs (List (Str × D))) : Prop where
  ps : PSs X sts t
  go : ∀ (a : Addr) (H1 R1 R H : Hp) (σ : St) (ρ : PEnv) (acc fs : List (Str × D)) (D' : Ends), IniS X.K X.mg CA a H1 R1 R H acc → σ[0]? = some (some (.ref a)) → (∀ i, ¬ Ow ρ i) → SlP X.K X.mg R H σ ρ → f ρ acc = .ok fs →
    (∀ R' H', IniS X.K X.mg CA a H1 R1 R' H' fs → D'.nx σ H') → t D' σ H
def iEnd : PEnv → List (Str × D) → Rs (List (Str × D)) := fun _ acc => .ok acc
def iSt (f : Str) (fe : PEnv → Rs D) (g : PEnv → List (Str × D) → Rs (List (Str × D))) : PEnv → List (Str × D) → Rs (List (Str × D)) := fun ρ acc => if acc.length ≤ 899 then (fe ρ).bind fun d => g ρ ((f, d) :: acc) else .bad
theorem eis_nil {X : Cx} {CA : Addr} : EIs X CA [] tNext iEnd := ⟨pss_nil, fun a H1 R1 R H σ ρ acc fs D' i e n s h k => by cases h; exact k R H i⟩
theorem eis_cons {X : Cx} {CA : Addr} {e o : Expr} {te : TE} {fe : PEnv → Rs D} {f : Str} {rest : List Stmt} {t : TS} {g : PEnv → List (Str × D) → Rs (List (Str × D))} {p' pos : Pos} (T : OexC X.K CA) (hno : PySem.W.findIn X.K (.ref CA) f = some none) (ho : PE X o (tVar 0)) (he : EE X W0 e te fe) (hr : EIs X CA rest t g)
    (hs : swapsWith e (some (.Attribute o f p')) pos.line X.env = pure false := by rfl) :
    EIs X CA (.Assign [.Attribute o f p'] e pos :: rest) (tSeq (tOst X.K f (tVar 0) te) t) (iSt f fe g) :=
  ⟨pss_cons (ps_ost ho (he.pe takesN) hs) hr.ps, fun a H1 R1 R H σ ρ acc fs D' i e0 n s h k => by
    unfold iSt at h
    split at h
    · rename_i hacc
      refine he.go R H σ ρ _ i.rh s ?_
      cases hf : fe ρ with
      | ok d =>
        rw [hf] at h
        intro R2 H2 w y dy
        have i2 := i.mono w
        refine ⟨.ref a, e0, a, CA, rfl, T, hno, ?_⟩
        rcases i2.st with ⟨e1, e2⟩ | ⟨dx, xs, e1, e2, e3, e4, e5, e6, e7⟩
        · refine .inl ⟨e2, fun dx hdx hne => ?_⟩
          have rdx : R2 dx = none := i2.rh.no hdx
          have i3 : IniS X.K X.mg CA a H1 R1 R2 (upd (upd H2 dx (exd dx [(f, y)])) a (exo a CA (some dx))) ((f, d) :: acc) := by
            subst e1
            refine ⟨i2.rr, fun b o z => ?_, i2.ra, i2.nw, fun b o z hb => ?_, .inr ⟨dx, [(f, y)], upd_same, ?_, hne, rdx, ?_, .cons dy .nil, by simp⟩⟩
            · rw [upd_ne (ne_of_none z i2.ra), upd_ne (ne_of_none z rdx)]; exact i2.rh b o z
            · have z' := i2.hh b o z hb
              rw [upd_ne hb, upd_ne (ne_of_none z' hdx)]; exact z'
            · cases q : H1 dx with
              | none => rfl
              | some o => rw [i2.hh dx o q hne] at hdx; cases hdx
            · rw [upd_ne hne]; exact upd_same
          exact hr.go a H1 R1 R2 _ σ ρ _ fs D' i3 e0 n (s.noOw n w.rr) h k
        · refine .inr ⟨dx, xs, e1, e5, by rw [e6.len]; exact e7, ?_⟩
          have i3 : IniS X.K X.mg CA a H1 R1 R2 (upd H2 dx (exd dx ((f, y) :: xs))) ((f, d) :: acc) := by
            refine ⟨i2.rr, fun b o z => ?_, i2.ra, i2.nw, fun b o z hb => ?_, .inr ⟨dx, (f, y) :: xs, ?_, e2, e3, e4, upd_same, .cons dy e6, ?_⟩⟩
            · rw [upd_ne (ne_of_none z e4)]; exact i2.rh b o z
            · rw [upd_ne (ne_of_none z e2)]; exact i2.hh b o z hb
            · rw [upd_ne (Ne.symm e3)]; exact e1
            · rw [List.length_cons]; omega
          exact hr.go a H1 R1 R2 _ σ ρ _ fs D' i3 e0 n (s.noOw n w.rr) h k
      | ex C fs => rw [hf] at h; cases h
      | bad => rw [hf] at h; cases h
    · cases h⟩
/-- the promise of such an __init__ -/
def spI (K : PySem.W.Frag) (mg : Str → Option Value) (CA : Addr) (n : Nat) (F : List D → Rs (List (Str × D))) : Sp := fun vs H Q E => ∃ a ws ds R fs, vs = .ref a :: ws ∧ ds.length = n ∧ Sb R H ∧ R a = none ∧ H a = some (exo a CA none) ∧ DenL K mg R ws ds ∧ F ds = .ok fs ∧
  ∀ R' H', IniS K mg CA a H R R' H' fs → Q .non H'
structure ExcP (P : Program) (w : World) (K : PySem.W.Frag) (mg : Str → Option Value) (base : Heap) (k : Nat) (C : Str) (n : Nat) (F : List D → Rs (List (Str × D))) : Prop where
  ex : ∃ CA fI fd ps, mg C = some (.ref CA) ∧ OexC K CA ∧ PySem.W.findIn K (.ref CA) "__init__" = some (some (.ref fI)) ∧ PySem.W.typeIn K (.ref fI) = some (.type "function") ∧ Binds K fd ps [] ∧ FnOk P w K mg base (L2N.CX P w) k fI fd ps (spI K mg CA n F)
def iniF (N : Nat) (g : PEnv → List (Str × D) → Rs (List (Str × D))) (ds : List D) : Rs (List (Str × D)) := g (.un :: (ds.map SV.fz ++ List.replicate (N - 1 - ds.length) SV.un)) []
theorem exc_def {P : Program} {w : World} {K : PySem.W.Frag} {mg : Str → Option Value} {base : Heap} {x qual C : Str} {st : Stmt} {f CA : Addr} {fd : FuncData} {N ps : List Str} {k : Nat} {g : PEnv → List (Str × D) → Rs (List (Str × D))} (F : Fun K x qual st f fd) (S : FnScope N ps (defScope st)) (bd : Binds K fd ps []) (hN : N.length = ps.length) (hps : 0 < ps.length) (hm : mg C = some (.ref CA)) (T : OexC K CA)
    (hi : PySem.W.findIn K (.ref CA) "__init__" = some (some (.ref f))) (ht : PySem.W.typeIn K (.ref f) = some (.type "function"))
    (hbody : ∀ (cdv : Value) (A : Around) (outer : List Env) (s : Shared) (H : Hp) (E : XK), Room k (A.deeper (envOfC qual (defScope st) s.heap.objs.size f cdv)) →
      ∃ t, EIs (cxOf (L2N.CX P w) P w K mg base N qual (defScope st) f cdv A outer s H E) CA (defBody st) t g) : ExcP P w K mg base (k + 1) C (ps.length - 1) (iniF N.length g) := by
  obtain ⟨oc, od, kV, doc, pm, an, cdv, ct, osl, rfl, lk, hcd⟩ := F.ex
  refine ⟨CA, f, _, ps, hm, T, hi, ht, bd, fn_of lk hcd S (fun vs H Q E h => ?_) fun A outer s H vs Q E hr hsp => ?_⟩
  · obtain ⟨a, ws, ds, R, fs, rfl, h1, _, _, _, h2, _⟩ := h
    rw [List.length_cons, h2.len, h1]; omega
  · obtain ⟨t, h⟩ := hbody cdv A outer s H E hr
    obtain ⟨a, ws, ds, R, fs, rfl, hl, rh, ra, ha, dl, hF, k⟩ := hsp
    have hwl := dl.len
    have est : L2.start N (.ref a :: ws) = some (.ref a) :: (ws.map some ++ List.replicate (N.length - (ws.length + 1)) none) := rfl
    refine ⟨t, h.ps, h.go a H R R H _ _ [] fs _ ⟨Sb.refl _, rh, ra, fun _ => .inr rfl, fun b o e _ => e, .inl ⟨rfl, ha⟩⟩ rfl ?_ ?_ hF fun R' H' i => k R' H' i⟩
    · intro i h
      rcases h with ⟨z, h⟩ | ⟨z, h⟩
      all_goals
        cases i with
        | zero => cases h
        | succ i =>
          rw [List.getElem?_cons_succ] at h
          by_cases hi : i < ds.length
          · rw [List.getElem?_append_left (by simpa using hi), List.getElem?_map] at h
            cases hd : ds[i]? with
            | none => rw [hd] at h; cases h
            | some d => rw [hd] at h; cases h
          · rw [List.getElem?_append_right (by simpa using hi), List.getElem?_replicate] at h
            split at h <;> cases h
    · have hs := start_sl (N := N.tail) rh dl
      have e1 : L2.start N.tail ws = ws.map some ++ List.replicate (N.length - (ws.length + 1)) none := by
        unfold L2.start
        rw [List.length_tail]
        congr 2
        omega
      have e2 : N.tail.length - ds.length = N.length - 1 - ds.length := by rw [List.length_tail]
      rw [e1, e2] at hs
      rw [est]
      refine ⟨by rw [List.length_cons, List.length_cons, hs.len], fun i d e => ?_, fun i d e => ?_, fun i d e => ?_, fun i j p hn h1 h2 => ?_, fun i a d CA C fs e => ?_⟩
      · cases i with
        | zero => cases e
        | succ i => exact hs.fz i d e
      · cases i with
        | zero => cases e
        | succ i => exact hs.ow i d e
      · cases i with
        | zero => cases e
        | succ i => exact hs.owK i d e
      · cases i with
        | zero => rcases h1 with ⟨_, z⟩ | ⟨_, z⟩ <;> cases z
        | succ i =>
          cases j with
          | zero => rcases h2 with ⟨_, z⟩ | ⟨_, z⟩ <;> cases z
          | succ j => exact hs.dj i j p (fun z => hn (by rw [z])) h1 h2
      · cases i with
        | zero => cases e
        | succ i => exact hs.en i a d CA C fs e

/-! ### raise C(e, ..) -/
section
variable {X : Cx} {W : WX} {e : Expr} {es : List Expr} {ta : TA} {fr : PEnv → Rs (List D)} {pos p : Pos}
theorem pmk_new {CXt : CXT} {x : Str} {C fI : Addr} {k : Nat} {fd : FuncData} {ps : List Str} {sp : Sp} (Tc : OexC X.K C) (iC : PySem.W.findIn X.K (.ref C) "__init__" = some (some (.ref fI))) (tI : PySem.W.typeIn X.K (.ref fI) = some (.type "function"))
    (Fi : FnOk X.prog X.w X.K X.mg X.base CXt k fI fd ps sp) (room : Room (k + 1) X.A) (bi : Binds X.K fd ps []) (px : Passes CXt X (fun _ _ _ => False)) (gx : Gl X x) (mx : X.mg x = some (.ref C)) (ea : PA X (e :: es) ta)
    (xdb : (x == ("__debug__" : Str)) = false := by decide) (se : starEach (e :: es) X.env = (false, eval e X.env) :: starEach es X.env := by rfl) (pl : (backTo pos (starEach es X.env)).any (·.1) = false := by rfl) :
    L2N.PMk X (.Call (.Name x p) (e :: es) [] pos) (tMkO C sp [] ta) := by
  intro pins sh σ Hp0 Q I todo
  obtain ⟨nm, q, N, bs, bm, sn, sub, ab, col, dd, k0, k1, k2, k3, k5, kC, kbm⟩ := Tc.cls
  refine wpAny_Call_Name_kw (ld_glob I gx mx ?_ xdb)
  refine PySem.W.callWith_K (h₀ := X.base) I.ok.mod.kin Tc.kC (thn (ea.run pos pins sh σ Hp0 _ I todo) fun args sh1 ⟨vs, Ha, Ia, ra, za, qa⟩ => ⟨Ia.kIn, ?_⟩) se pl
  show wpAny _ _ (call (.ref C) args) _ _ _
  obtain ⟨hp, gn, drn, tk, os⟩ := sh1
  have szs : hp.objs.size ≤ hp.objs.size + 1 := Nat.le_succ _
  have noH : Ha (hp.objs.size + 1) = none := Ia.hok.fresh szs
  have qi := qa (hp.objs.size + 1) noH
  rw [List.append_nil] at qi
  have keep2 : ∀ b o, hp.get? b = some o → ((hp.push (PySem.W.kdv_tup args)).push (PySem.HandSPX.excO C hp.objs.size)).get? b = some o := fun b o z => Heap.get?_push_of_some _ (Heap.get?_push_of_some _ z)
  have at2 : ((hp.push (PySem.W.kdv_tup args)).push (PySem.HandSPX.excO C hp.objs.size)).get? (hp.objs.size + 1) = some (PySem.HandSPX.excO C hp.objs.size) := by heap_get
  have Ib : Inv X pins σ (upd Ha (hp.objs.size + 1) (exo (hp.objs.size + 1) C none)) ⟨(hp.push (PySem.W.kdv_tup args)).push (PySem.HandSPX.excO C hp.objs.size), gn, drn, tk, os⟩ :=
    Ia.laid (t' := tk) (a := hp.objs.size + 1) (o := exo (hp.objs.size + 1) C none) (h' := (hp.push (PySem.W.kdv_tup args)).push (PySem.HandSPX.excO C hp.objs.size)) keep2 szs (exo_ok at2)
  have rb : Vals (V.ref (hp.objs.size + 1) :: vs) (Value.ref (hp.objs.size + 1) :: args) := .cons rfl ra
  have lenb : (Value.ref (hp.objs.size + 1) :: args ++ []).length = ps.length := by
    have z := rb.length
    rw [Fi.len _ _ _ _ qi] at z
    rw [List.append_nil]; exact z.symm
  have small : args.length ≤ sizeLine := by
    rw [← Paired.length ra, sizeLine_eq]; omega
  have bb := bi ⟨(hp.push (PySem.W.kdv_tup args)).push (PySem.HandSPX.excO C hp.objs.size), gn, drn, tk, os⟩ (Value.ref (hp.objs.size + 1) :: args) Ib.kIn lenb
  rw [List.append_nil] at bb
  refine wpAny_call (PySem.HandSPX.call_own F.excBase_ValueError (fun Y => PySem.HandSPX.refsVE_contains Y bm kbm) (Ia.kIn _ _ kC) (PySem.W.looks_findIn Ia.kIn iC) (fun self => PySem.W.bind_fn Ia.kIn self tI) small
    (codeAny_mono (Fi.run _ X.stack _ _ ⟨Value.ref (hp.objs.size + 1) :: args, []⟩ (Value.ref (hp.objs.size + 1) :: args) _ _ (fun _ _ _ => False) (room.make C args []) (Ib.env0.make C args []) bb rb qi) fun r sh2 hr => ?_))
  cases r with
  | error er => exact px pins σ _ _ er sh2 Ib hr
  | ok fl =>
    cases fl with
    | ret u =>
      obtain ⟨v, Hb, osb, bareb, unb, okb, rv, ev, d, fs, ea, ed, nd, qb⟩ := hr
      subst ev
      obtain ⟨h2, g2, d2, t2, os'⟩ := sh2
      obtain ⟨t0, G, J, kG, ge, hoe, na⟩ := mk_end0 (d2 := d2) (t2 := t2) Ia szs keep2 unb okb osb bareb ea ed nd
      exact ⟨rv, hp.objs.size + 1, _, _, ⟨G, g2, d2, t2, os'⟩, _, .ref C, some d, rfl, J, kG, ge, hoe, ⟨rfl, rfl, fun vs hv => by cases hv; rfl⟩, rfl, rfl, na, rfl, bareb, raises_own Tc.exC Tc.tyC, qb⟩
    | next => exact False.elim hr
    | brk => exact False.elim hr
    | cont => exact False.elim hr
def sRaise (C : Str) (n : Nat) (F : List D → Rs (List (Str × D))) (fr : PEnv → Rs (List D)) : PEnv → Out := fun ρ => sB (fr ρ) ρ fun ds => if ds.length = n ∧ n ≤ 1000 then (match F ds with | .ok (f :: fs) => .ex C (f :: fs) ρ | _ => .bad) else .bad
def cAddr : Option Value → Addr | some (.ref a) => a | _ => 0
def tRai (K : PySem.W.Frag) (mg : Str → Option Value) (W : WX) (x : Str) (n : Nat) (F : List D → Rs (List (Str × D))) (ta : TA) : TS := fun _ σ H => tMkO (cAddr (mg x)) (spI K mg (cAddr (mg x)) n F) [] ta σ H fun cls d H' => W cls d σ H'
theorem es_raise {k : Nat} {x : Str} {n : Nat} {F : List D → Rs (List (Str × D))} {posr : Pos} (hc : X.calm = true) (G : ExcP X.prog X.w X.K X.mg X.base k x n F) (hr : Room (k + 1) X.A) (hg : Gl X x) (ha : EA X W (e :: es) ta fr)
    (hdb : (x == ("__debug__" : Str)) = false := by decide) (he : starEach (e :: es) X.env = (false, eval e X.env) :: starEach es X.env := by rfl) (hpl : (backTo pos (starEach es X.env)).any (·.1) = false := by rfl) :
    ES X W (.Raise (some (.Call (.Name x p) (e :: es) [] pos)) none posr) (tRai X.K X.mg W x n F ta) (sRaise x n F fr) := by
  obtain ⟨CA, fI, fd, ps, hm, T, iC, tI, hb, Fi⟩ := G.ex
  have ec : cAddr (X.mg x) = CA := by rw [hm]; rfl
  unfold tRai
  rw [ec]
  refine ⟨fun tk po => L2N.ps_raise hc tk (pmk_new T iC tI Fi hr hb passN hg hm (ha.pa tk) hdb he hpl), fun H0 R0 Rl R H σ ρ D' s p => ?_⟩
  refine ha.go R H σ ρ _ s.rh s.sl ((p.ev s).imp fun ds R1 H1 w1 kk vs dl => ?_)
  obtain ⟨s1, q⟩ := kk
  split at q
  · rename_i hn
    cases hF : F ds with
    | ok fs =>
      rw [hF] at q
      have hne : fs ≠ [] := by rintro rfl; exact q.elim
      have q : Post X.K X.mg W H0 R0 Rl D' (.ex x fs ρ) := by
        cases fs with
        | nil => exact q.elim
        | cons f fs => exact q
      refine ⟨by rw [dl.len, hn.1]; exact hn.2, fun a na => ?_⟩
      rw [List.append_nil]
      refine ⟨a, vs, ds, R1, fs, rfl, hn.1, fun b o z => ?_, s1.rh.no na, upd_same, dl, hF, fun R' H' i => ⟨rfl, ?_⟩⟩
      · rw [upd_ne (ne_of_none z (s1.rh.no na))]; exact s1.rh b o z
      · rcases i.st with ⟨e1, e2⟩ | ⟨d, xs, e1, e2, e3, e4, e5, e6, e7⟩
        · exact absurd e1 hne
        · rw [upd_ne e3] at e2
          refine ⟨d, xs, e1, e5, e2, ?_⟩
          have nwd : ∀ b, H1 b = none ∨ R' b = R1 b := fun b => by
            rcases i.nw b with z | z
            · by_cases hb : b = a
              · subst hb; exact .inl na
              · rw [upd_ne hb] at z; exact .inl z
            · exact .inr z
          have w2 : Wd R1 H1 (upd R' d (.xd xs)) (upd (del H' a) d (.xd xs)) := ⟨fun b o z => by
              have hb : b ≠ a := ne_of_none z na
              rw [upd_ne (ne_of_none z e2), del_ne hb]
              exact i.hh b o (by rw [upd_ne hb]; exact z) hb, fun b o z => by
              rw [upd_ne (ne_of_none (i.rr b o z) e4)]; exact i.rr b o z, fun b o z => by
              by_cases hb : b = d
              · subst hb; rw [upd_same] at z ⊢; exact z
              · rw [upd_ne hb] at z ⊢
                rw [del_ne (ne_of_none z i.ra)]; exact i.rh b o z, fun b => by
              by_cases hb : b = d
              · subst hb; exact .inl e2
              · rw [upd_ne hb]; exact nwd b⟩
          exact q σ _ _ CA d xs (s1.mono w2) hm (s1.h0.no e2) upd_same (e6.mono (Sb.upd e4))
    | ex C fs => rw [hF] at q; exact q.elim
    | bad => rw [hF] at q; exact q.elim
  · exact q.elim
end

/-! ### try: body, except BoardError as n: suite -/
/-- what the written part says of an error class whose instances are looked at: attrs are the attributes that are read -/
structure ClsE (K : PySem.W.Frag) (attrs : List Str) (CA : Addr) : Prop where
  xf : XfC K CA
  no : ∀ n ∈ attrs, PySem.W.findIn K (.ref CA) n = some none
  cl : (PySem.W.clsIn K CA).isSome = true
  ha : PySem.W.findIn K (.ref CA) "__class__" = some (some (.builtin "object.__class__"))
  hn : PySem.W.specialIn K (.builtin "object.__class__") "__get__" = some (some (.builtin "getset_descriptor.__get__"))
  ht : PySem.W.takesIn K (.builtin "object.__class__") = some true
  hm : PySem.W.mroIn K CA (.type "object") = some true
open Classical in
noncomputable def sTry (i : Nat) (sub : Str → Option Bool) (body : PEnv → Out) (suite : Addr → Addr → Option Addr → PEnv → Out) : PEnv → Out := fun ρ => match body ρ with
  | .ex C fs ρ' => match sub C with
    | some true => if h : ∃ o, ∀ a CA d, unI i (suite a CA d (ρ'.set i (.exn a d CA C fs))) = o then choose h else .bad
    | some false => .ex C fs ρ'
    | none => .bad
  | o => o
where unI (i : Nat) : Out → Out
  | .nx ρ => .nx (ρ.set i .un)
  | .bk ρ => .bk (ρ.set i .un)
  | .ct ρ => .ct (ρ.set i .un)
  | .rt d => .rt d
  | .ex _ _ _ => .bad
  | .bad => .bad
theorem sTry_ex {i : Nat} {sub : Str → Option Bool} {body : PEnv → Out} {suite : Addr → Addr → Option Addr → PEnv → Out} {ρ ρ' : PEnv} {C : Str} {fs : List (Str × D)} {o : Out} (h : body ρ = .ex C fs ρ') (hs : sub C = some true)
    (ho : ∀ a CA d, sTry.unI i (suite a CA d (ρ'.set i (.exn a d CA C fs))) = o) : sTry i sub body suite ρ = o := by
  unfold sTry
  rw [h]
  simp only [hs]
  have hx : ∃ o, ∀ a CA d, sTry.unI i (suite a CA d (ρ'.set i (.exn a d CA C fs))) = o := ⟨o, ho⟩
  rw [dif_pos hx]
  exact (Classical.choose_spec hx 0 0 none).symm.trans (ho 0 0 none)
/-- an error enters a slot -/
theorem RelS.setE {K : PySem.W.Frag} {mg : Str → Option Value} {H0 R0 Rl R H : Hp} {σ : St} {ρ : PEnv} {i : Nat} {a CA dd : Addr} {C : Str} {xs : List (Str × V)} {fs : List (Str × D)} (s : RelS K mg H0 R0 Rl R H σ ρ) (hm : mg C = some (.ref CA)) (hd : R dd = some (.xd xs)) (df : DenF K mg R xs fs) :
    RelS K mg H0 R0 Rl R H (σ.set i (some (.ref a))) (ρ.set i (.exn a (some dd) CA C fs)) := by
  have t := s.unset (i := i) (v := some (.ref a))
  have nOw : ∀ j, Ow (ρ.set i (.exn a (some dd) CA C fs)) j → Ow (ρ.set i .un) j := fun j h => by
    have hj : j ≠ i := by
      rintro rfl
      rcases h with ⟨x, h⟩ | ⟨x, h⟩ <;> (rw [List.getElem?_set] at h; split at h <;> simp_all)
    rcases h with ⟨x, h⟩ | ⟨x, h⟩
    · exact .inl ⟨x, by rw [List.getElem?_set_ne (Ne.symm hj)] at h ⊢; exact h⟩
    · exact .inr ⟨x, by rw [List.getElem?_set_ne (Ne.symm hj)] at h ⊢; exact h⟩
  have other : ∀ (j : Nat) x, (ρ.set i (.exn a (some dd) CA C fs))[j]? = some x → (j = i ∧ x = .exn a (some dd) CA C fs ∧ i < ρ.length) ∨ (j ≠ i ∧ (ρ.set i .un)[j]? = some x) := fun j x h => by
    by_cases hj : j = i
    · subst hj
      have hl : j < ρ.length := by
        rw [List.getElem?_set] at h
        by_cases z : j < ρ.length
        · exact z
        · simp [z] at h
      rw [List.getElem?_set_self hl] at h; cases h
      exact .inl ⟨rfl, rfl, hl⟩
    · rw [List.getElem?_set_ne (Ne.symm hj)] at h
      exact .inr ⟨hj, by rw [List.getElem?_set_ne (Ne.symm hj)]; exact h⟩
  refine ⟨t.rh, ⟨by simp [s.sl.len], fun j d e => ?_, fun j d e => ?_, fun j d e => ?_, fun j k p hn h1 h2 e1 e2 => t.sl.dj j k p hn (nOw j h1) (nOw k h2) e1 e2, fun j a' d CA' C' fs' e => ?_⟩, t.h0, t.r0, t.rl, fun j p h e => t.nw j p (nOw j h) e⟩
  · rcases other j _ e with ⟨_, z, _⟩ | ⟨_, z⟩
    · cases z
    · exact t.sl.fz j d z
  · rcases other j _ e with ⟨_, z, _⟩ | ⟨_, z⟩
    · cases z
    · exact t.sl.ow j d z
  · rcases other j _ e with ⟨_, z, _⟩ | ⟨_, z⟩
    · cases z
    · exact t.sl.owK j d z
  · rcases other j _ e with ⟨z1, z, hl⟩ | ⟨_, z⟩
    · cases z
      exact ⟨by rw [z1]; exact List.getElem?_set_self (by rw [s.sl.len]; exact hl), hm, dd, xs, rfl, hd, df⟩
    · exact t.sl.en j a' d CA' C' fs' z
section
variable {X : Cx} {W : WX}
/-- the body, in each of its contexts at once -/
def tBodyA (X : Cx) (body : List Stmt) (W' : WX) : TS := fun D σ H => ∀ (pn : List (Addr × Obj)) (xe : Value → Shared → Prop), L2N.Takes (X.tr pn xe) W' → PassesOwn (model X.prog X.w) X.A X.env xe → ∀ (pins : List (Addr × Obj)) (s : Shared), Inv (X.tr pn xe) pins σ H s →
  wpAny (model X.prog X.w) X.A (execs body X.env) (SP (X.tr pn xe) pins D) xe s
/-- the suite, in each of its contexts at once -/
def tSuiteA (X : Cx) (sts : List Stmt) (attrs : List Str) : Addr → Value → Option Addr → TS := fun a cls d D σ H => ∀ (oe : Obj) (pn : List (Addr × Obj)), L2N.Zn cls d oe → (∃ vs, oe.data = .fields vs) → ∀ (pins : List (Addr × Obj)) (s : Shared), Inv (X.suite a ((a, oe) :: pn)) pins σ H s →
  wpAny (model X.prog X.w) (X.suite a ((a, oe) :: pn)).A (execs sts X.env) (SP (X.suite a ((a, oe) :: pn)) pins D) (fun _ _ => False) s
theorem es_try {x n : Str} {CB : Addr} {i : Nat} {body suite : List Stmt} {b₀ : Stmt} {np pos pos' : Pos} {fb : PEnv → Out} {fs : Addr → Addr → Option Addr → PEnv → Out} {attrs : List Str} {sub : Str → Option Bool}
    (hs : X.stack = X.env :: X.outer) (hf : X.env.frame = some X.env.locals) (hN : X.N.Nodup) (hi : X.N[i]? = some n) (hln : X.env.kindOf n = some .local) (hc : Names X x (.ref CB))
    (hcls : ∀ C CA b, sub C = some b → X.mg C = some (.ref CA) → ClsE X.K attrs CA ∧ PySem.W.exmOne X.K (.ref CA) (.ref CB) = some b)
    (hb : ∀ (W' : WX) (pn : List (Addr × Obj)) (xe : Value → Shared → Prop), ∃ t, ESs (X.tr pn xe) W' body t fb)
    (hsu : ∀ (a CA : Addr) (d : Option Addr) (oe : Obj) (pn : List (Addr × Obj)), L2N.Zn (.ref CA) d oe → (∃ vs, oe.data = .fields vs) → ClsE X.K attrs CA → ∃ t, ESs (X.suite a ((a, oe) :: pn)) W0 (b₀ :: suite) t (fs a CA d)) :
    ES X W (.Try body [.ExceptHandler (some (.Name x np)) (some n) (b₀ :: suite) pos'] [] [] pos) (fun D σ H => tBodyA X body (wAs X.K (.ref CB) i (tSuiteA X (b₀ :: suite) attrs) W D) D σ H) (sTry i sub fb fs) := by
  refine ⟨fun tk po => L2N.ps_try_as (tb := tBodyA X body) (ts := tSuiteA X (b₀ :: suite) attrs) hs hf hN hi hln hc tk (fun W' pn xe tk' po' => ⟨fun pins s σ H D I h => h pn xe tk' po' pins s I⟩) (fun a oe cls d pn hz hv => ⟨fun pins s σ H D I h => h oe pn hz hv pins s I⟩), fun H0 R0 Rl R H σ ρ D' s p => ?_⟩
  intro pn xe tk' po' pins s1 I
  obtain ⟨t, ht⟩ := hb (wAs X.K (.ref CB) i (tSuiteA X (b₀ :: suite) attrs) W D') pn xe
  refine (ht.ps tk' po').run pins s1 σ H D' I (ht.go H0 R0 Rl R H σ ρ D' s ?_)
  unfold sTry at p
  cases hbo : fb ρ with
  | nx ρ' => rw [hbo] at p; exact p
  | bk ρ' => rw [hbo] at p; exact p
  | ct ρ' => rw [hbo] at p; exact p
  | rt d => rw [hbo] at p; exact p
  | bad => rw [hbo] at p; exact p
  | ex C fl ρ' =>
    rw [hbo] at p
    intro σ1 R1 H1 CA dd xs s2 e1 e2 e3 e4
    simp only at p
    cases hsub : sub C with
    | none => rw [hsub] at p; exact p.elim
    | some b =>
      rw [hsub] at p
      obtain ⟨ce, ex⟩ := hcls C CA b hsub e1
      refine ⟨b, ex, fun hbt a na => ?_, fun hbf => ?_⟩
      · subst hbt
        simp only at p
        split at p
        · rename_i hx
          have ho := Classical.choose_spec hx a CA (some dd)
          have s3 := s2.setE (i := i) (a := a) e1 e3 e4
          intro oe pn2 hz hv pins2 s4 I2
          obtain ⟨t2, ht2⟩ := hsu a CA (some dd) oe pn2 hz hv ce
          refine (ht2.ps takesN .never).run pins2 s4 _ _ _ I2 (ht2.go H0 R0 Rl R1 H1 _ _ _ s3 ?_)
          rw [← ho] at p
          cases hf : fs a CA (some dd) (ρ'.set i (.exn a (some dd) CA C fl)) with
          | nx ρ2 => rw [hf] at p; exact fun σ2 R2 H2 s5 => p _ R2 H2 s5.unset
          | bk ρ2 => rw [hf] at p; exact fun σ2 R2 H2 s5 => p _ R2 H2 s5.unset
          | ct ρ2 => rw [hf] at p; exact fun σ2 R2 H2 s5 => p _ R2 H2 s5.unset
          | rt d => rw [hf] at p; exact p
          | ex C' fs' ρ2 => rw [hf] at p; exact p.elim
          | bad => rw [hf] at p; exact p.elim
        · exact p.elim
      · subst hbf
        exact p σ1 R1 H1 CA dd xs s2 e1 e2 e3 e4
/-- the suite's context bears the handled error -/
theorem hot_suite {a : Addr} {oe : Obj} {pn : List (Addr × Obj)} {CA : Addr} {d : Option Addr} (hz : L2N.Zn (.ref CA) d oe) (hv : ∃ vs, oe.data = .fields vs) : L2H.HotC (X.suite a ((a, oe) :: pn)) := by
  obtain ⟨vs, hv⟩ := hv
  exact ⟨(a, oe), ⟨rfl, vs, hv, hz.2.2 vs hv⟩, List.mem_cons_self⟩
/-- error.f -/
def eXf (a CA : Addr) (d : Option Addr) (i : Nat) (n : Str) : PEnv → Rs D := fun ρ => match ρ[i]? with
  | some (.exn a' d' CA' C fs) => if a' = a ∧ d' = d ∧ CA' = CA then ofO (fs.lookup n) else .bad
  | _ => .bad
theorem ee_xf {a CA : Addr} {d : Option Addr} {oe : Obj} {pn : List (Addr × Obj)} {attrs : List Str} {i : Nat} {x n : Str} {p pos : Pos} {WW : WX} (ce : ClsE X.K attrs CA) (hn : n ∈ attrs) (hz : L2N.Zn (.ref CA) d oe) (hv : ∃ vs, oe.data = .fields vs) (he : PE (X.suite a ((a, oe) :: pn)) (.Name x p) (tVar i))
    (hb : attributeBase (.Name x p) n X.env (eval (.Name x p) X.env) = eval (.Name x p) X.env := by rfl) :
    EE (X.suite a ((a, oe) :: pn)) WW (.Attribute (.Name x p) n pos) (tXf a (.ref CA) d CA n (tVar i)) (eXf a CA d i n) :=
  ⟨fun tk => pe_xf ce.xf (ce.no n hn) hz.zc hv he hb, fun R H σ ρ Q rh s k => by
    unfold eXf at k
    split at k
    · rename_i a' d' CA' C fs e
      split at k
      · rename_i hh
        obtain ⟨rfl, rfl, rfl⟩ := hh
        obtain ⟨h1, hm, dd, xs, h2, h3, h4⟩ := s.en i _ _ _ C fs e
        cases hl : fs.lookup n with
        | none => rw [hl] at k; exact k.elim
        | some c =>
          rw [hl] at k
          obtain ⟨y, hy, dy⟩ := h4.look hl
          exact ⟨.ref a', h1, rfl, rfl, dd, xs, y, h2, rh _ _ h3, hy, (After.ok rh k) y dy⟩
      · exact k.elim
    · exact k.elim⟩
/-- isinstance(error, C2) -/
def eXi (a CA : Addr) (d : Option Addr) (i : Nat) (isa : Str → Option Bool) : PEnv → Rs D := fun ρ => match ρ[i]? with
  | some (.exn a' d' CA' C _) => if a' = a ∧ d' = d ∧ CA' = CA then ofO ((isa C).map .bl) else .bad
  | _ => .bad
theorem call_isX {a CA : Addr} {d : Option Addr} {oe : Obj} {pn : List (Addr × Obj)} {attrs : List Str} (ce : ClsE X.K attrs CA) (hz : L2N.Zn (.ref CA) d oe) (hv : ∃ vs, oe.data = .fields vs) :
    CallR (X.suite a ((a, oe) :: pn)) (.builtin "isinstance") (fun xs H Q => (∃ dd, d = some dd ∧ ∃ fs, H dd = some (.xd fs)) ∧ rIsE X.K CA a xs H Q) := by
  intro pins s σ H xs us Q I r h
  obtain ⟨⟨dd, ed, fs, hxd⟩, c, cv, b, rfl, hcv, e, q⟩ := h
  cases r with
  | cons rx rr =>
    cases rr with
    | cons rt rr =>
      cases rr
      cases rx
      have ec := hcv _ rt
      subst ec
      obtain ⟨hget, _⟩ := I.pin (a, oe) (List.mem_append.mpr (.inl List.mem_cons_self))
      obtain ⟨vs, hv⟩ := hv
      have hx : ObjOk X.prog X.w H s.heap dd (.xd fs) := I.hok dd _ hxd
      obtain ⟨mA, hns, _⟩ := hx
      obtain ⟨od, ho, _⟩ := lookIn_ns hns
      have J : PySem.W.InstAt s.heap a oe CA (some od) := ⟨hget, hz.1, by unfold PySem.W.notCls; rw [hv] <;> rfl, by rw [hz.2.1, ed]; exact ho⟩
      exact PySem.W.kia_one (PySem.W.kitx_exc ce.cl ce.xf.ga ce.xf.gg ce.xf.exC ce.ha ce.hn ce.ht ce.hm) I.kIn J e (fun z => nomatch z) fun tk => ⟨.bl b, H, I.kept (t' := tk) fun _ _ z => z, rfl, q⟩
theorem ee_xi {a CA C2 : Addr} {d : Option Addr} {oe : Obj} {pn : List (Addr × Obj)} {attrs : List Str} {i : Nat} {x y : Str} {p q pos r : Pos} {WW : WX} {isa : Str → Option Bool} (ce : ClsE X.K attrs CA) (hz : L2N.Zn (.ref CA) d oe) (hv : ∃ vs, oe.data = .fields vs) (he : PE (X.suite a ((a, oe) :: pn)) (.Name x p) (tVar i))
    (hgi : Gl (X.suite a ((a, oe) :: pn)) "isinstance") (hmi : X.mg "isinstance" = none) (hgy : Gl (X.suite a ((a, oe) :: pn)) y) (hmy : X.mg y = some (.ref C2)) (hk : ∀ C CA' b, isa C = some b → X.mg C = some (.ref CA') → PySem.W.kitOne X.K (.ref CA') (.ref C2) = some b)
    (hdy : (y == ("__debug__" : Str)) = false := by decide)
    (hs1 : starEach [.Name x p, .Name y q] X.env = (false, eval (.Name x p) X.env) :: starEach [.Name y q] X.env := by rfl) (hs2 : starEach [.Name y q] X.env = [(false, eval (.Name y q) X.env)] := by rfl) (hpl : (backTo pos (starEach [.Name y q] X.env)).any (·.1) = false := by rfl) :
    EE (X.suite a ((a, oe) :: pn)) WW (.Call (.Name "isinstance" r) [.Name x p, .Name y q] [] pos) (tCB (fun xs H Q => (∃ dd, d = some dd ∧ ∃ fs, H dd = some (.xd fs)) ∧ rIsE X.K CA a xs H Q) (tCons (tVar i) (tCons (tC (.ref C2)) tNil))) (eXi a CA d i isa) :=
  ⟨fun tk => pe_callB (call_isX ce hz hv) hgi hmi PyProof.Rows.boot_isinstance (pa_cons he (pa_cons (pe_glob hgy hmy rfl hdy) pa_nil hs2) hs1) (by decide) (by decide) hs1 hpl, fun R H σ ρ Q rh s k => by
    unfold eXi at k
    split at k
    · rename_i a' d' CA' C fs e
      split at k
      · rename_i hh
        obtain ⟨rfl, rfl, rfl⟩ := hh
        obtain ⟨h1, hm, dd, xs, h2, h3, h4⟩ := s.en i _ _ _ C fs e
        cases hi : isa C with
        | none => rw [hi] at k; exact k.elim
        | some b =>
          rw [hi] at k
          exact ⟨.ref a', h1, ⟨dd, h2, xs, rh _ _ h3⟩, .ref C2, .ref C2, b, rfl, fun u hu => hu, hk C _ b hi hm, (After.ok rh k) _ (.bl b)⟩
      · exact k.elim
    · exact k.elim⟩
end
end PL

/-! the pure layer, part G: more constructs -/
namespace PL
open PySem PySem.Spec PyProof.Rows L2

section
variable {X : Cx} {W : WX} {a b c e o : Expr} {t ta tb tc te : TE} {f fa fb fc fe : PEnv → Rs D} {pos p p2 : Pos}
/-! a < b < c -/
theorem chain_go {r r' : R2} {g g' : D → D → Option D}
    (hg : ∀ (R H : Hp) (x y : V) (a b c : D) (Q : VK), Sb R H → Den X.K X.mg R x a → Den X.K X.mg R y b → g a b = some c → (∀ R' H' v, Wd R H R' H' → Den X.K X.mg R' v c → Q v H') → r x y H Q)
    (hg' : ∀ (R H : Hp) (x y : V) (a b c : D) (Q : VK), Sb R H → Den X.K X.mg R x a → Den X.K X.mg R y b → g' a b = some c → (∀ R' H' v, Wd R H R' H' → Den X.K X.mg R' v c → Q v H') → r' x y H Q)
    (ha : EE X W a ta fa) (hb : EE X W b tb fb) (hc : EE X W c tc fc) (R H : Hp) (σ : St) (ρ : PEnv) (Q : VK) (rh : Sb R H) (s : SlP X.K X.mg R H σ ρ) (k : After X.K X.mg W σ R H (eChain g g' fa fb fc ρ) (fun d R' H' => ∀ v, Den X.K X.mg R' v d → Q v H')) : tChain r r' ta tb tc σ H Q := by
  refine ha.go R H σ ρ _ rh s ((After.bind k).imp fun da R1 H1 w1 k1 v dv => ?_)
  refine hb.go R1 H1 σ ρ _ w1.rh (s.mono rh w1) ((After.bind k1).imp fun db R2 H2 w2 k2 u du => ?_)
  cases hz : g da db with
  | none => rw [hz] at k2; exact k2.elim
  | some z =>
    rw [hz] at k2
    refine hg R2 H2 v u da db z _ w2.rh (dv.mono w2.rr) du hz fun R3 H3 zv w3 dz => ?_
    cases z with
    | bl kb =>
      cases dz
      refine ⟨kb, rfl, ?_⟩
      have k3 := After.mono w3 k2
      cases kb with
      | false => exact (After.ok w3.rh k3) _ (.bl false)
      | true =>
        refine hc.go R3 H3 σ ρ _ w3.rh (s.mono rh ((w1.tr w2).tr w3)) ((After.bind (r := fc ρ) (g := fun z => ofO (g' db z)) k3).imp fun dc R4 H4 w4 k4 w' dw => ?_)
        cases hq : g' db dc with
        | none => rw [hq] at k4; exact k4.elim
        | some q => rw [hq] at k4; exact hg' R4 H4 u w' db dc q Q w4.rh (du.mono (w3.tr w4).rr) dw hq fun R' H' z wz dz => k4 R' H' wz z dz
    | _ => exact k2.elim
theorem ee_chain {op op' : CmpOp} {r r' : R2} {g g' : D → D → Option D} (ho : O2 X (compareOp op) r g) (ho' : O2 X (compareOp op') r' g') (ha : EE X W a ta fa) (hb : EE X W b tb fb) (hc : EE X W c tc fc)
    (hm : lastMarks [op, op'] [b, c] = false := by with_unfolding_all rfl) : EE X W (.Compare a [op, op'] [b, c] pos) (tChain r r' ta tb tc) (eChain g g' fa fb fc) :=
  ⟨fun tk => pe_chain ho.op ho'.op (ha.pe tk) (hb.pe tk) (hc.pe tk) hm, chain_go ho.go ho'.go ha hb hc⟩
theorem et_chain {op op' : CmpOp} {r r' : R2} {g g' : D → D → Option D} (ho : O2 X (compareOp op) r g) (ho' : O2 X (compareOp op') r' g') (ha : EE X W a ta fa) (hb : EE X W b tb fb) (hc : EE X W c tc fc)
    (hm : lastMarks [op, op'] [b, c] = false := by with_unfolding_all rfl) : ET X W (.Compare a [op, op'] [b, c] pos) (tTest (tChain r r' ta tb tc)) (fun ρ => tst (eChain g g' fa fb fc ρ)) :=
  ⟨fun tk => pt_chain ho.op ho'.op (ha.pe tk) (hb.pe tk) (hc.pe tk) hm, fun R H σ ρ Q rh s k => chain_go ho.go ho'.go ha hb hc R H σ ρ _ rh s (After.tst k)⟩

/-! xs.index(y) -/
def idxL (y : D) : List D → Option Nat
  | [] => none
  | z :: r => if eqF z y then some 0 else (idxL y r).map (· + 1)
def lstD : D → Option (List D) | .lst ds => some ds | .scl ds => some ds | _ => none
def idxD (ds : List D) (y : D) : Option D := if flD y = true ∧ ds.all flD = true then (idxL y ds).map fun j => .int (j : Nat) else none
theorem idx_sp {K : PySem.W.Frag} {mg : Str → Option Value} {R : Hp} {y : V} {c : D} (g : Den K mg R y c) : ∀ {v : List V} {d : List D} {j : Nat}, DenL K mg R v d → idxL c d = some j → (∃ z, v[j]? = some z ∧ eqV z y = true) ∧ ∀ (m : Nat) z', m < j → v[m]? = some z' → eqV z' y = false
  | _, _, j, .nil, e => by cases e
  | _, _, j, .cons (v := v) (d := d) (ds := ds) h hs, e => by
    unfold idxL at e
    by_cases hq : eqF d c = true
    · rw [if_pos hq] at e; cases e
      exact ⟨⟨v, rfl, by rw [den_eqF h g]; exact hq⟩, fun m z' hm => absurd hm (Nat.not_lt_zero _)⟩
    · rw [if_neg hq] at e
      cases hj : idxL c ds with
      | none => rw [hj] at e; cases e
      | some j' =>
        rw [hj] at e; cases e
        obtain ⟨⟨z, h1, h2⟩, h3⟩ := idx_sp g hs hj
        refine ⟨⟨z, h1, h2⟩, fun m z' hm hz => ?_⟩
        cases m with
        | zero => cases hz; rw [den_eqF h g]; exact Bool.eq_false_iff.mpr hq
        | succ m => exact h3 m z' (Nat.lt_of_succ_lt_succ hm) hz
def eIdx (fo fe : PEnv → Rs D) : PEnv → Rs D := fun ρ => (fo ρ).bind fun x => match lstD x with | some ds => (fe ρ).bind fun y => ofO (idxD ds y) | none => .bad
theorem ee_index {to : TE} {fo : PEnv → Rs D} {apos cpos : Pos} (ho : EX X W o to fo) (he : EE X W e te fe)
    (hp : L2N.Takes X W → PE X (.Call (.Attribute o "index" apos) [e] [] cpos) (tBM X.K "list" (rIndex X.K) to (tCons te tNil))) :
    EE X W (.Call (.Attribute o "index" apos) [e] [] cpos) (tBM X.K "list" (rIndex X.K) to (tCons te tNil)) (eIdx fo fe) :=
  ⟨hp, fun R H σ ρ Q rh s k => ho.go R H σ ρ _ rh s ((After.bind k).imp fun da R1 H1 w1 k1 v dv => by
    cases hd : lstD da with
    | none => rw [hd] at k1; exact k1.elim
    | some ds =>
      rw [hd] at k1
      have hd : da = .lst ds ∨ da = .scl ds := by
        cases da with
        | lst ds => cases hd; exact .inl rfl
        | scl ds => cases hd; exact .inr rfl
        | _ => cases hd
      obtain ⟨p, xs, rfl, h1, h2⟩ := denx_list w1.rh dv hd
      refine ⟨.inl ⟨rfl, xs, h1⟩, he.go R1 H1 σ ρ _ w1.rh (s.mono rh w1) ((After.bind (r := fe ρ) (g := fun y => ofO (idxD ds y)) k1).imp fun db R2 H2 w2 k2 u du => ?_)⟩
      obtain ⟨p', xs', e', h1, h2⟩ := denx_list w2.rh (denx_mono w2 dv) hd
      cases e'
      unfold idxD at k2
      split at k2
      · rename_i hz
        cases hj : idxL db ds with
        | none => rw [hj] at k2; exact k2.elim
        | some j =>
          rw [hj] at k2
          obtain ⟨⟨z, g1, g2⟩, g3⟩ := idx_sp du h2 hj
          exact ⟨p, xs', u, j, z, rfl, rfl, h1, by rw [den_fl du]; exact hz.1, by rw [denl_fl h2]; exact hz.2, g1, g2, g3, (After.ok w2.rh k2) _ (.int _)⟩
      · exact k2.elim)⟩
/-! xs.insert(i, y), an owned list -/
noncomputable def sIns (i : Nat) (fk f : PEnv → Rs D) : PEnv → Out := fun ρ => match ρ[i]? with
  | some (.ow ds) => sB (fk ρ) ρ fun k => sB (f ρ) ρ fun d => match k with
    | .int n => @ite Out (0 ≤ n ∧ n < 2 ^ 63 ∧ ds.length < 16777216) (Classical.propDecidable _) (.nx (ρ.set i (.ow (ds.take n.toNat ++ [d] ++ ds.drop n.toNat)))) .bad
    | _ => .bad
  | _ => .bad
abbrev rIns : V → List V → Hp → VK → Prop := fun x vs H Q => ∃ (l : Addr) (xs : List V) (i : Int) (y : V), x = .ref l ∧ vs = [.int i, y] ∧ H l = some (.lst xs) ∧ xs.length < sizeLine ∧ 0 ≤ i ∧ i < 2 ^ 63 ∧ Q .non (upd H l (.lst (xs.take i.toNat ++ [y] ++ xs.drop i.toNat)))
theorem es_ins {i : Nat} {ek : Expr} {tk : TE} {fk : PEnv → Rs D} {apos cpos : Pos} (hk : EE X W ek tk fk) (he : EE X W e te fe)
    (hp : L2N.Takes X W → PE X (.Call (.Attribute o "insert" apos) [ek, e] [] cpos) (tBM X.K "list" rIns (tVar i) (tCons tk (tCons te tNil)))) (hs : swapsWith (.Call (.Attribute o "insert" apos) [ek, e] [] cpos) none pos.line X.env = pure false := by rfl) :
    ES X W (.Expr (.Call (.Attribute o "insert" apos) [ek, e] [] cpos) pos) (tDrop (tBM X.K "list" rIns (tVar i) (tCons tk (tCons te tNil)))) (sIns i fk fe) := ⟨fun tk' po => ps_expr (hp tk') hs, fun H0 R0 Rl R H σ ρ D' s p => by
  unfold sIns at p
  split at p
  · rename_i ds hd
    obtain ⟨q, xs, h1, h2, h3, h4⟩ := s.sl.ow i ds hd
    refine ⟨.ref q, h1, .inl ⟨rfl, xs, .inl (.inl h2)⟩, ?_⟩
    refine hk.go R H σ ρ _ s.rh s.sl ((p.ev s).imp fun c R1 H1 w1 k u du => ?_)
    refine he.go R1 H1 σ ρ _ w1.rh k.1.sl ((k.2.ev k.1).imp fun d R2 H2 w2 k2 v dv => ?_)
    cases du with
    | int n =>
      obtain ⟨k3, k4⟩ := k2
      simp only at k4
      split at k4
      · rename_i hz
        have h4' := h4.mono (w1.tr w2).rr
        exact ⟨q, xs, n, v, rfl, rfl, w2.hh _ _ (w1.hh _ _ h2), by rw [sizeLine_eq, h4.len]; exact hz.2.2, hz.1, hz.2.1, k4 σ R2 _ (k3.chg hd h1 (((h4'.take _).app (.cons dv .nil)).app (h4'.drop _)))⟩
      · exact k4.elim
    | _ => exact k2.2.elim
  · exact p.elim⟩
/-! what the built-ins' names are -/
theorem bt_len : bootBuiltins "len" = some (.builtin "len") := by decide +kernel
theorem bt_sum : bootBuiltins "sum" = some (.builtin "sum") := by decide +kernel
theorem bt_max : bootBuiltins "max" = some (.builtin "max") := by decide +kernel
theorem bt_min : bootBuiltins "min" = some (.builtin "min") := by decide +kernel
theorem bt_all : bootBuiltins "all" = some (.builtin "all") := by decide +kernel
theorem bt_any : bootBuiltins "any" = some (.builtin "any") := by decide +kernel
theorem bt_int : bootBuiltins "int" = some (.type "int") := by decide +kernel
theorem bt_bool : bootBuiltins "bool" = some (.type "bool") := by decide +kernel
theorem bt_str : bootBuiltins "str" = some (.type "str") := by decide +kernel
theorem bt_list : bootBuiltins "list" = some (.type "list") := by decide +kernel
theorem bt_tuple : bootBuiltins "tuple" = some (.type "tuple") := by decide +kernel
theorem bt_sorted : bootBuiltins "sorted" = some (.builtin "sorted") := by decide +kernel
end
end PL

/-! the pure layer, part H: in short -/
namespace PL
open PySem PySem.Spec PyProof.Rows L2
section
variable {X : Cx} {W : WX} {a b c e o : Expr} {t ta tb tc te to : TE} {f fa fb fc fe fo : PEnv → Rs D} {pos p p2 : Pos}
/-- xs.append(e) -/
theorem es_appN {i : Nat} {x : Str} {px apos cpos : Pos} (ho : PE X (.Name x px) (tVar i)) (he : EE X W e te fe)
    (hbase : attributeBase (.Name x px) "append" X.env (eval (.Name x px) X.env) = eval (.Name x px) X.env := by rfl)
    (hfew : ((backTo cpos (starEach [e] X.env)).all (fun x => !x.1) && (backToKw cpos (keywordEach [] X.env)).all (fun x => x.1.isSome)
      && decide (([e] : List Expr).length + ([] : List Keyword).length + (if ([] : List Keyword).isEmpty then 0 else 1) < 30)) = true := by rfl)
    (hline : (apos.endLine == cpos.line) = true := by rfl) (hst : starEach [e] X.env = [(false, eval e X.env)] := by rfl) (hplain : (backTo cpos (starEach [] X.env)).any (·.1) = false := by rfl)
    (hs : swapsWith (.Call (.Attribute (.Name x px) "append" apos) [e] [] cpos) none pos.line X.env = pure false := by rfl) :
    ES X W (.Expr (.Call (.Attribute (.Name x px) "append" apos) [e] [] cpos) pos) (tDrop (tBM X.K "list" rAppend (tVar i) (tCons te tNil))) (sApp i fe) :=
  es_app he (fun tk => pe_bm PySem.F.plainAttrs_list PySem.F.slot_list_append PySem.F.type_list_append mt_append ho (pa_cons (he.pe tk) pa_nil hst) hbase hfew hline hst hplain) hs
/-- xs.insert(k, e) -/
theorem es_insN {i : Nat} {x : Str} {ek : Expr} {tk : TE} {fk : PEnv → Rs D} {px apos cpos : Pos} (ho : PE X (.Name x px) (tVar i)) (hk : EE X W ek tk fk) (he : EE X W e te fe)
    (hbase : attributeBase (.Name x px) "insert" X.env (eval (.Name x px) X.env) = eval (.Name x px) X.env := by rfl)
    (hfew : ((backTo cpos (starEach [ek, e] X.env)).all (fun x => !x.1) && (backToKw cpos (keywordEach [] X.env)).all (fun x => x.1.isSome)
      && decide (([ek, e] : List Expr).length + ([] : List Keyword).length + (if ([] : List Keyword).isEmpty then 0 else 1) < 30)) = true := by rfl)
    (hline : (apos.endLine == cpos.line) = true := by rfl) (hst : starEach [ek, e] X.env = (false, eval ek X.env) :: starEach [e] X.env := by rfl) (hst2 : starEach [e] X.env = [(false, eval e X.env)] := by rfl) (hplain : (backTo cpos (starEach [e] X.env)).any (·.1) = false := by rfl)
    (hs : swapsWith (.Call (.Attribute (.Name x px) "insert" apos) [ek, e] [] cpos) none pos.line X.env = pure false := by rfl) :
    ES X W (.Expr (.Call (.Attribute (.Name x px) "insert" apos) [ek, e] [] cpos) pos) (tDrop (tBM X.K "list" rIns (tVar i) (tCons tk (tCons te tNil)))) (sIns i fk fe) :=
  es_ins hk he (fun tk => pe_bm PySem.F.plainAttrs_list PySem.F.slot_list_insert PySem.F.type_list_insert mt_insert ho (pa_cons (hk.pe tk) (pa_cons (he.pe tk) pa_nil hst2) hst) hbase hfew hline hst hplain) hs
/-- xs[k] = e -/
theorem es_putN {i : Nat} {x : Str} {px q : Pos} (ho : PE X (.Name x px) (tVar i)) (hb : EE X W b tb fb) (he : EE X W e te fe)
    (hps : ∀ v, assign (.Subscript (.Name x px) b q) X.env v = (do
      let ov ← holding [v] (eval (.Name x px) X.env)
      let iv ← holding [v, ov] (eval b X.env)
      standAt q
      holding [v, ov, iv] (setItem ov iv v)
      release [v, ov, iv] []) := by intro _; rfl) (hs : swapsWithSole [.Subscript (.Name x px) b q] e pos.line X.env = pure false := by rfl) (hw : swappedStores [.Subscript (.Name x px) b q] e X.env = pure none := by rfl)
    (h1 : (assignEach [.Subscript (.Name x px) b q] X.env).map (·.2) = [assign (.Subscript (.Name x px) b q) X.env] := by rfl) :
    ES X W (.Assign [.Subscript (.Name x px) b q] e pos) (tAsg te (gSub (tVar i) tb rSetL)) (sPut i fb fe) :=
  es_put (tg := .Subscript (.Name x px) b q) hb he fun tk po => ps_asg (he.pe tk) (pg_sub ho (hb.pe tk) set_list hps) hs hw h1
/-- xs.index(e) -/
theorem ee_indexN {apos cpos : Pos} (ho : EX X W o to fo) (he : EE X W e te fe)
    (hbase : attributeBase o "index" X.env (eval o X.env) = eval o X.env := by rfl)
    (hfew : ((backTo cpos (starEach [e] X.env)).all (fun x => !x.1) && (backToKw cpos (keywordEach [] X.env)).all (fun x => x.1.isSome)
      && decide (([e] : List Expr).length + ([] : List Keyword).length + (if ([] : List Keyword).isEmpty then 0 else 1) < 30)) = true := by rfl)
    (hline : (apos.endLine == cpos.line) = true := by rfl) (hst : starEach [e] X.env = [(false, eval e X.env)] := by rfl) (hplain : (backTo cpos (starEach [] X.env)).any (·.1) = false := by rfl) :
    EE X W (.Call (.Attribute o "index" apos) [e] [] cpos) (tBM X.K "list" (rIndex X.K) to (tCons te tNil)) (eIdx fo fe) :=
  ee_index ho he fun tk => pe_bm PySem.F.plainAttrs_list PySem.F.slot_list_index PySem.F.type_list_index mt_index (ho.pe tk) (pa_cons (he.pe tk) pa_nil hst) hbase hfew hline hst hplain
end
theorem cls_some {K : PySem.W.Frag} {C : Addr} (h : PySem.W.hasDictIn K C = true) : (PySem.W.clsIn K C).isSome = true := by
  obtain ⟨cd, hc, _⟩ := PySem.W.any_some h; rw [hc]; rfl
theorem kit_ref {K : PySem.W.Frag} {C C2 : Addr} {b : Bool} (hd : PySem.W.hasDictIn K C2 = true) (ht : PySem.W.typeIn K (.ref C2) = some (.type "type")) (hs : PySem.W.subIn K (.ref C2) (.ref C2) = some true) (h : PySem.W.subIn K (.ref C) (.ref C2) = some b) : PySem.W.kitOne K (.ref C) (.ref C2) = some b := by
  unfold PySem.W.kitOne
  split
  · rename_i e
    have e' : C = C2 := Value.ref.inj (beq_iff_eq.mp e)
    subst e'
    rw [hs] at h; exact h
  · have e2 : ((PySem.W.clsIn K C2).isSome && PySem.W.typeIn K (.ref C2) == some (.type "type")) = true := by rw [cls_some hd, ht]; rfl
    show (if ((PySem.W.clsIn K C2).isSome && PySem.W.typeIn K (.ref C2) == some (.type "type")) = true then PySem.W.subIn K (.ref C) (.ref C2) else none) = some b
    rw [if_pos e2]; exact h
theorem hu_h {k : Nat} {A : Around} (r : L2H.RoomH k A) : A.units + 64 < cLine := by have := r.un; omega
/-! ### the law -/
section
variable {P : Program} {w : World} {K : PySem.W.Frag} {mg : Str → Option Value} {base : Heap}
theorem fn_defO {x qual : Str} {st : Stmt} {f : Addr} {fd : FuncData} {N ps : List Str} {k : Nat} {fb : PEnv → Out} (F : Fun K x qual st f fd) (S : FnScope N ps (defScope st))
    (hbody : ∀ (cdv : Value) (A : Around) (outer : List Env) (s : Shared) (H : Hp) (E : XK), Room k (A.deeper (envOfC qual (defScope st) s.heap.objs.size f cdv)) →
      ∃ t, ESs (cxOf (L2N.CX P w) P w K mg base N qual (defScope st) f cdv A outer s H E) (fun cls d _ H => E cls d H) (defBody st) t fb) : FnOk P w K mg base (L2N.CX P w) (k + 1) f fd ps (spF K mg ps.length (runF N.length fb)) := by
  obtain ⟨oc, od, kV, doc, pm, an, cdv, ct, osl, rfl, lk, hcd⟩ := F.ex
  refine fn_of lk hcd S spF_len fun A outer s H vs Q E hr hsp => ?_
  obtain ⟨t, h⟩ := hbody cdv A outer s H E hr
  obtain ⟨ds, R, hl, rh, dl, a⟩ := hsp
  exact ⟨t, h.ps (L2N.takes_of rfl rfl rfl rfl) (passes_of rfl), run_go rh dl h.go a⟩
def spLaw (K : PySem.W.Frag) : Sp := fun vs H Q _ => ∃ (a : Addr) (ns : List Int), vs = [.ref a] ∧ SqL K H a (ns.map V.int) ∧ ns.length ≤ 63 ∧ ∀ H', Q (.bl true) H'
theorem denl_of_ints {R : Hp} : ∀ ns : List Int, DenL K mg R (ns.map V.int) (ns.map D.int)
  | [] => .nil
  | n :: r => .cons (.int n) (denl_of_ints r)
theorem law_end {F : List D → Rs D} {k : Nat} {f : Addr} {fd : FuncData} {ps : List Str} (hF : ∀ ns : List Int, ns.length ≤ 63 → F [.scl (ns.map D.int)] = .ok (.bl true)) (G : FnOk P w K mg base (L2N.CX P w) k f fd ps (spF K mg 1 F)) : FnOk P w K mg base (L2N.CX P w) k f fd ps (spLaw K) :=
  G.imp fun vs H Q E h => by
    obtain ⟨a, ns, rfl, hS, hl, q⟩ := h
    exact ⟨[.scl (ns.map D.int)], H, rfl, Sb.refl _, .cons (.scl hS (denl_of_ints ns)) .nil, by rw [hF ns hl]; exact fun R' H' v w dv => by cases dv; exact q H'⟩
/-- a test, its reading not under a binder -/
def tT (f : PEnv → Rs D) : PEnv → Rs Bool := fun ρ => tst (f ρ)
theorem cx_end {w : World} : ∀ (H : Hp) (s : Shared) (e : Value) (s' : Shared), L2N.CX P w [] H s (fun _ _ _ => False) e s' → False := fun H s e s' h => by
  obtain ⟨_, _, _, _, _, _, _, _, _, _, _, _, z⟩ := h; exact z
end
end PL

/-! pure functions, part S: running them -/
namespace PL
open PySem

@[simp] theorem s_seq (g h : PEnv → Out) (ρ : PEnv) : sSeq g h ρ = match g ρ with | .nx ρ' => h ρ' | o => o := rfl
@[simp] theorem s_next (ρ : PEnv) : sNext ρ = .nx ρ := rfl
@[simp] theorem s_set (i : Nat) (f : PEnv → Rs D) (ρ : PEnv) : sSet i f ρ = sB (f ρ) ρ fun d => .nx (ρ.set i (.fz d)) := rfl
@[simp] theorem s_setN (i : Nat) (f : PEnv → Rs (List D)) (ρ : PEnv) : sSetN i f ρ = sB (f ρ) ρ fun d => .nx (ρ.set i (.ow d)) := rfl
@[simp] theorem s_ret (f : PEnv → Rs D) (ρ : PEnv) : sRet f ρ = sB (f ρ) ρ fun d => .rt d := rfl
@[simp] theorem s_drop (f : PEnv → Rs D) (ρ : PEnv) : sDrop f ρ = sB (f ρ) ρ fun d => .nx ρ := rfl
@[simp] theorem s_if (c : PEnv → Rs Bool) (g h : PEnv → Out) (ρ : PEnv) : sIf c g h ρ = sB (c ρ) ρ fun b => if b = true then g ρ else h ρ := rfl
@[simp] theorem s_frz (i : Nat) (g : PEnv → Out) (ρ : PEnv) : sFrz i g ρ = g (frzS ρ i) := rfl
@[simp] theorem frzS_eq (ρ : PEnv) (i : Nat) : frzS ρ i = match ρ[i]? with
  | some (.ow ds) => ρ.set i (.fz (.lst ds))
  | some (.owK ks) => ρ.set i (.fz (.dct ks))
  | _ => ρ := rfl
@[simp] theorem s_for (it : PEnv → Rs (List D)) (g : PEnv → D → Option PEnv) (b : PEnv → Out) (ρ : PEnv) : sFor it g b ρ = sB (it ρ) ρ fun ds => forF g b ds ρ := rfl
@[simp] theorem s_aug (i : Nat) (op : Int → Int → Int) (f : PEnv → Rs D) (ρ : PEnv) : sAug i op f ρ = match ρ[i]? with
  | some (.fz (.int a)) => sB (f ρ) ρ fun d => match d with
    | .int b => .nx (ρ.set i (.fz (.int (op a b))))
    | _ => .bad
  | _ => .bad := rfl
@[simp] theorem s_app (i : Nat) (f : PEnv → Rs D) (ρ : PEnv) : sApp i f ρ = match ρ[i]? with
  | some (.ow ds) => sB (f ρ) ρ fun d => if ds.length < 16777216 then .nx (ρ.set i (.ow (ds ++ [d]))) else .bad
  | _ => .bad := rfl
@[simp] theorem sB_bad {α : Type} (ρ : PEnv) (g : α → Out) : sB (.bad : Rs α) ρ g = .bad := rfl
@[simp] theorem e_v (i : Nat) (ρ : PEnv) : eV i ρ = match ρ[i]? with | some (.fz d) => .ok d | _ => .bad := rfl
@[simp] theorem x_v (i : Nat) (ρ : PEnv) : xV i ρ = match ρ[i]? with | some (.fz d) => .ok d | some (.ow ds) => .ok (.lst ds) | some (.owK ks) => .ok (.dct ks) | _ => .bad := rfl
@[simp] theorem e_c (d : D) (ρ : PEnv) : eC d ρ = .ok d := rfl
@[simp] theorem e_op (g : D → D → Option D) (fa fb : PEnv → Rs D) (ρ : PEnv) : eOp g fa fb ρ = (fa ρ).bind fun x => (fb ρ).bind fun y => ofO (g x y) := rfl
@[simp] theorem e_x (g : D → Option D) (f : PEnv → Rs D) (ρ : PEnv) : eX g f ρ = (f ρ).bind fun d => ofO (g d) := rfl
@[simp] theorem e_b (g : List D → Option D) (f : PEnv → Rs (List D)) (ρ : PEnv) : eB g f ρ = (f ρ).bind fun d => ofO (g d) := rfl
@[simp] theorem e_nil (ρ : PEnv) : eNil ρ = .ok [] := rfl
@[simp] theorem e_cons (f : PEnv → Rs D) (g : PEnv → Rs (List D)) (ρ : PEnv) : eCons f g ρ = (f ρ).bind fun d => (g ρ).bind fun ds => .ok (d :: ds) := rfl
@[simp] theorem e_fn (n : Nat) (F : List D → Rs D) (g : PEnv → Rs (List D)) (ρ : PEnv) : eFn n F g ρ = (g ρ).bind fun ds => if ds.length = n then F ds else .bad := rfl
@[simp] theorem e_f0 (F : List D → Rs D) (ρ : PEnv) : eF0 F ρ = match F [] with | .ok d => .ok d | _ => .bad := rfl
@[simp] theorem e_nl (f : PEnv → Rs (List D)) (ρ : PEnv) : nl f ρ = (f ρ).bind fun ds => .ok (.lst ds) := rfl
@[simp] theorem e_li (f : PEnv → Rs D) (ρ : PEnv) : eLi f ρ = (f ρ).bind fun d => ofO (listD d) := rfl
@[simp] theorem e_and (f g : PEnv → Rs Bool) (ρ : PEnv) : eAnd f g ρ = (f ρ).bind fun c => if c = true then g ρ else .ok false := rfl
@[simp] theorem e_or (f g : PEnv → Rs Bool) (ρ : PEnv) : eOr f g ρ = (f ρ).bind fun c => if c = true then .ok true else g ρ := rfl
@[simp] theorem e_not (f : PEnv → Rs Bool) (ρ : PEnv) : eNot f ρ = (f ρ).bind fun c => .ok (!c) := rfl
@[simp] theorem e_andV (f g : PEnv → Rs D) (ρ : PEnv) : eAndV f g ρ = (tst (f ρ)).bind fun c => if c = true then g ρ else .ok (.bl false) := rfl
@[simp] theorem e_orV (f g : PEnv → Rs D) (ρ : PEnv) : eOrV f g ρ = (tst (f ρ)).bind fun c => if c = true then .ok (.bl true) else g ρ := rfl
@[simp] theorem e_notV (f : PEnv → Rs D) (ρ : PEnv) : eNotV f ρ = (tst (f ρ)).bind fun c => .ok (.bl (!c)) := rfl
@[simp] theorem e_if (c : PEnv → Rs Bool) (f g : PEnv → Rs D) (ρ : PEnv) : eIf c f g ρ = (c ρ).bind fun b => if b = true then f ρ else g ρ := rfl
@[simp] theorem e_chain (g h : D → D → Option D) (fa fb fc : PEnv → Rs D) (ρ : PEnv) : eChain g h fa fb fc ρ = (fa ρ).bind fun x => (fb ρ).bind fun y => (tst (ofO (g x y))).bind fun c => if c = true then (fc ρ).bind fun z => ofO (h y z) else .ok (.bl false) := rfl
@[simp] theorem e_tup (f : PEnv → Rs (List D)) (ρ : PEnv) : eTup f ρ = (f ρ).bind fun ds => if okL ds = true then .ok (.tup ds) else .bad := rfl
@[simp] theorem e_lst (f : PEnv → Rs (List D)) (ρ : PEnv) : eLst f ρ = (f ρ).bind fun ds => if okL ds = true then .ok ds else .bad := rfl
@[simp] theorem e_sl (fa : PEnv → Rs D) (fl fh : PEnv → Rs (Option Int)) (ρ : PEnv) : eSl fa fl fh ρ = (fa ρ).bind fun x => (fl ρ).bind fun l => (fh ρ).bind fun h => ofO (slD x l h) := rfl
@[simp] theorem e_idx (fo fe : PEnv → Rs D) (ρ : PEnv) : eIdx fo fe ρ = (fo ρ).bind fun x => match lstD x with | some ds => (fe ρ).bind fun y => ofO (idxD ds y) | none => .bad := rfl
@[simp] theorem i_sq (f : PEnv → Rs D) (ρ : PEnv) : iSq f ρ = (f ρ).bind fun d => ofO (seqD d) := rfl
noncomputable def rgO (i j : Int) : Rs (List D) := @ite _ (okR i ∧ okR j) (Classical.propDecidable _) (.ok (rgD i (j - i).toNat)) .bad
@[simp] theorem i_r1 (f : PEnv → Rs (List D)) (ρ : PEnv) : iR1 f ρ = (f ρ).bind fun ds => match ds with | [.int j] => rgO 0 j | _ => .bad := by
  show Rs.bind _ _ = _
  congr 1; funext ds; unfold rgO
  have h0 : okR 0 := by unfold okR; decide
  split
  · rename_i j
    show _ = @ite _ (okR 0 ∧ okR j) (Classical.propDecidable _) (Rs.ok (rgD 0 (j - 0).toNat)) Rs.bad
    by_cases h : okR j
    · rw [if_pos h, if_pos ⟨h0, h⟩, Int.sub_zero]
    · rw [if_neg h, if_neg fun z => h z.2]
  · rename_i h
    first
    | rfl
    | (split
       · exact absurd rfl (h _)
       · rfl)
@[simp] theorem i_r2 (f : PEnv → Rs (List D)) (ρ : PEnv) : iR2 f ρ = (f ρ).bind fun ds => match ds with | [.int i, .int j] => rgO i j | _ => .bad := by
  show Rs.bind _ _ = _
  congr 1; funext ds; unfold rgO
  split
  · rename_i i j
    show _ = @ite _ (okR i ∧ okR j) (Classical.propDecidable _) (Rs.ok (rgD i (j - i).toNat)) Rs.bad
    by_cases h : okR i ∧ okR j
    · rw [if_pos h, if_pos h]
    · rw [if_neg h, if_neg h]
  · rename_i h
    first
    | rfl
    | (split
       · exact absurd rfl (h _ _)
       · rfl)
theorem okR_sm {i : Int} (h : -1000000000 ≤ i ∧ i ≤ 1000000000) : okR i := ⟨by omega, by omega⟩
theorem rgO_of {i j : Int} (hi : -1000000000 ≤ i ∧ i ≤ 1000000000) (hj : -1000000000 ≤ j ∧ j ≤ 1000000000) : rgO i j = .ok (rgD i (j - i).toNat) := if_pos ⟨okR_sm hi, okR_sm hj⟩
theorem rgO_n {n : Nat} (h : n ≤ 1000000000) : rgO 0 (n : Int) = .ok (rgD 0 n) := by
  rw [rgO_of (by decide) ⟨by omega, by omega⟩, Int.sub_zero, Int.toNat_natCast]
@[simp] theorem g_n (i : Nat) (ρ : PEnv) (d : D) : gN i ρ d = some (ρ.set i (.fz d)) := rfl
@[simp] theorem c_lc (vs : List Nat) (it : PEnv → Rs (List D)) (g : PEnv → D → Option PEnv) (t : PEnv → Rs Bool) (e : PEnv → Rs D) (ρ : PEnv) : cLc vs it g t e ρ = (it ρ).bind fun ds => match compF g t e (wipeP ρ vs) ds with
  | some xs => if okL xs = true then .ok xs else .bad
  | none => .bad := rfl
@[simp] theorem t_t (f : PEnv → Rs D) (ρ : PEnv) : tT f ρ = tst (f ρ) := rfl
@[simp] theorem wipe_nil (ρ : PEnv) : wipeP ρ [] = ρ := rfl
@[simp] theorem wipe_cons (ρ : PEnv) (v : Nat) (vs : List Nat) : wipeP ρ (v :: vs) = (wipeP ρ vs).set v .un := rfl
@[simp] theorem sub_i (i j : Int) : subD (.int i) (.int j) = some (.int (i - j)) := rfl
@[simp] theorem add_i (i j : Int) : addD (.int i) (.int j) = some (.int (i + j)) := rfl
@[simp] theorem and_i (i j : Int) : andD (.int i) (.int j) = some (.int (Builtin.bitAnd i j)) := rfl
@[simp] theorem or_i (i j : Int) : orD (.int i) (.int j) = some (.int (Builtin.bitOr i j)) := rfl
@[simp] theorem lt_i (i j : Int) : ltD (.int i) (.int j) = some (.bl (decide (i < j))) := rfl
@[simp] theorem le_i (i j : Int) : leD (.int i) (.int j) = some (.bl (decide (i ≤ j))) := rfl
@[simp] theorem gt_i (i j : Int) : gtD (.int i) (.int j) = some (.bl (decide (j < i))) := rfl
@[simp] theorem ge_i (i j : Int) : geD (.int i) (.int j) = some (.bl (decide (j ≤ i))) := rfl
@[simp] theorem eqDD_i (i j : Int) : eqDD (.int i) (.int j) = some (.bl (i == j)) := rfl
@[simp] theorem neDD_i (i j : Int) : neDD (.int i) (.int j) = some (.bl (!(i == j))) := rfl
@[simp] theorem eqDD_b (i j : Bool) : eqDD (.bl i) (.bl j) = some (.bl (i == j)) := rfl
@[simp] theorem neDD_b (i j : Bool) : neDD (.bl i) (.bl j) = some (.bl (!(i == j))) := rfl
@[simp] theorem isN_e (d : D) : isN d .non = some (.bl (isNone d)) := by cases d <;> rfl
@[simp] theorem notN_e (d : D) : notN d .non = some (.bl (!isNone d)) := by cases d <;> rfl
@[simp] theorem isNone_i (i : Int) : isNone (.int i) = false := rfl
@[simp] theorem isNone_n : isNone .non = true := rfl
@[simp] theorem neg_i (i : Int) : negD (.int i) = some (.int (-i)) := rfl
@[simp] theorem inv_i (i : Int) : invD (.int i) = some (.int (Builtin.bitNot i)) := rfl
theorem mul_i {i j : Int} (h : smallF i ∨ smallF j) : mulD (.int i) (.int j) = some (.int (i * j)) := by
  show @ite _ (smallF i ∨ smallF j) (Classical.propDecidable _) (some (D.int (i * j))) none = _
  rw [if_pos h]
theorem mul_l {i j : Int} (h : -(2 ^ 64) < i ∧ i < 2 ^ 64) : mulD (.int i) (.int j) = some (.int (i * j)) := mul_i (.inl h)
theorem mul_r {i j : Int} (h : -(2 ^ 64) < j ∧ j < 2 ^ 64) : mulD (.int i) (.int j) = some (.int (i * j)) := mul_i (.inr h)
theorem mod_i {i j : Int} (h : 0 < j) : modD (.int i) (.int j) = some (.int (i % j)) := by
  show (if 0 < j then (some (D.int (i % j))) else none) = _
  rw [if_pos h]
theorem fdiv_i {i j : Int} (h : 0 < j ∧ j < 2 ^ 64) : fdivD (.int i) (.int j) = some (.int (i / j)) := by
  show @ite _ (0 < j ∧ j < 2 ^ 64) (Classical.propDecidable _) (some (D.int (i / j))) none = _
  rw [if_pos h]
theorem shl_i {i j : Int} (h : 0 ≤ j ∧ j ≤ 1000000 ∧ i.natAbs < 2 ^ 64) : shlD (.int i) (.int j) = some (.int (i * 2 ^ j.toNat)) := by
  show @ite _ (0 ≤ j ∧ j ≤ 1000000 ∧ i.natAbs < 2 ^ 64) (Classical.propDecidable _) (some (D.int (i * 2 ^ j.toNat))) none = _
  rw [if_pos h]
theorem shr_i {i j : Int} (h : 0 ≤ j) : shrD (.int i) (.int j) = some (.int (i / 2 ^ j.toNat)) := by
  show (if 0 ≤ j then (some (D.int (i / 2 ^ j.toNat))) else none) = _
  rw [if_pos h]
theorem pow_i {i j : Int} (h : 0 ≤ j ∧ j ≤ 1000000 ∧ i.natAbs < 2 ^ 64) : powD (.int i) (.int j) = some (.int (i ^ j.toNat)) := by
  show @ite _ (0 ≤ j ∧ j ≤ 1000000 ∧ i.natAbs < 2 ^ 64) (Classical.propDecidable _) (some (D.int (i ^ j.toNat))) none = _
  rw [if_pos h]
@[simp] theorem ix_l (ds : List D) (i : Int) : ixD (.lst ds) (.int i) = L2.atI ds i := rfl
@[simp] theorem ix_s (ds : List D) (i : Int) : ixD (.scl ds) (.int i) = L2.atI ds i := rfl
@[simp] theorem ix_t (ds : List D) (i : Int) : ixD (.tup ds) (.int i) = L2.atI ds i := rfl
@[simp] theorem len_l (ds : List D) : lenD (.lst ds) = some (.int ds.length) := rfl
@[simp] theorem len_s (ds : List D) : lenD (.scl ds) = some (.int ds.length) := rfl
@[simp] theorem len_t (ds : List D) : lenD (.tup ds) = some (.int ds.length) := rfl
@[simp] theorem tuple_l (ds : List D) : tupleD (.lst ds) = some (.tup ds) := rfl
@[simp] theorem tuple_t (ds : List D) : tupleD (.tup ds) = some (.tup ds) := rfl
@[simp] theorem seq_l (ds : List D) : seqD (.lst ds) = some ds := rfl
@[simp] theorem seq_s (ds : List D) : seqD (.scl ds) = some ds := rfl
@[simp] theorem seq_t (ds : List D) : seqD (.tup ds) = some ds := rfl
@[simp] theorem int_i (i : Int) : intD [.int i] = some (.int i) := rfl
@[simp] theorem tag_i (i : Int) : tagD (.int i) = some "int" := rfl
@[simp] theorem isi_d (cs : List String) (d : D) : isiD cs d = (tagD d).map fun T => .bl (cs.any (isT T)) := rfl
@[simp] theorem max2_i (i j : Int) : max2D [.int i, .int j] = some (.int (if j > i then j else i)) := rfl
@[simp] theorem toI_i (i : Int) : toI (.int i) = .ok (some i) := rfl
@[simp] theorem lstD_l (ds : List D) : lstD (.lst ds) = some ds := rfl
theorem okL_of {ds : List D} (h : ds.length ≤ 16777216) : okL ds = true := decide_eq_true h
theorem okR_of {i : Int} (h : -(2 ^ 62) ≤ i ∧ i < 2 ^ 62) : okR i := h
theorem sumD_ints (ns : List Int) : sumD (.lst (ns.map .int)) = some (.int ns.sum) := by show (intsOf _).map _ = _; rw [intsOf_map]; rfl

/-! ### loops -/
/-- a for that runs through -/
theorem for_inv {g : PEnv → D → Option PEnv} {b : PEnv → Out} (ds : List D) (I : Nat → PEnv → Prop) {ρ : PEnv} (h0 : I 0 ρ)
    (hs : ∀ i d ρ, ds[i]? = some d → I i ρ → ∃ ρ1 ρ2, g ρ d = some ρ1 ∧ (b ρ1 = .nx ρ2 ∨ b ρ1 = .ct ρ2) ∧ I (i + 1) ρ2) : ∃ ρ', forF g b ds ρ = .nx ρ' ∧ I ds.length ρ' := by
  induction ds generalizing ρ I with
  | nil => exact ⟨ρ, rfl, h0⟩
  | cons d ds ih =>
    obtain ⟨ρ1, ρ2, h1, h2, h3⟩ := hs 0 d ρ rfl h0
    obtain ⟨ρ', e, h⟩ := ih (fun i => I (i + 1)) h3 fun i d' ρ' hd hi => hs (i + 1) d' ρ' hd hi
    refine ⟨ρ', ?_, h⟩
    unfold forF
    rw [h1]
    rcases h2 with h2 | h2 <;> (simp only [h2]; exact e)
theorem rgD_get {lo : Int} {n i : Nat} {d : D} (h : (rgD lo n)[i]? = some d) : i < n ∧ d = .int (lo + (i : Int)) := by
  unfold rgD at h
  rw [List.getElem?_map] at h
  cases hk : (List.range n)[i]? with
  | none => rw [hk] at h; cases h
  | some k =>
    rw [hk] at h; cases h
    obtain ⟨h1, h2⟩ := List.getElem?_eq_some_iff.mp hk
    rw [List.length_range] at h1
    rw [List.getElem_range] at h2
    subst h2
    exact ⟨h1, rfl⟩
theorem rgD_len (lo : Int) (n : Nat) : (rgD lo n).length = n := by unfold rgD; simp
/-- over a range -/
theorem for_rg {g : PEnv → D → Option PEnv} {b : PEnv → Out} {lo : Int} {n : Nat} (I : Nat → PEnv → Prop) {ρ : PEnv} (h0 : I 0 ρ)
    (hs : ∀ (i : Nat) ρ, i < n → I i ρ → ∃ ρ1 ρ2, g ρ (.int (lo + (i : Int))) = some ρ1 ∧ (b ρ1 = .nx ρ2 ∨ b ρ1 = .ct ρ2) ∧ I (i + 1) ρ2) : ∃ ρ', forF g b (rgD lo n) ρ = .nx ρ' ∧ I n ρ' := by
  obtain ⟨ρ', h1, h2⟩ := for_inv (g := g) (b := b) (rgD lo n) I h0 fun i d ρ hd hi => by
    obtain ⟨hl, rfl⟩ := rgD_get hd
    exact hs i ρ hl hi
  rw [rgD_len] at h2
  exact ⟨ρ', h1, h2⟩
/-- over a range from 0 -/
theorem for_r0 {g : PEnv → D → Option PEnv} {b : PEnv → Out} {n : Nat} (I : Nat → PEnv → Prop) {ρ : PEnv} (h0 : I 0 ρ)
    (hs : ∀ (i : Nat) ρ, i < n → I i ρ → ∃ ρ1 ρ2, g ρ (.int (i : Int)) = some ρ1 ∧ (b ρ1 = .nx ρ2 ∨ b ρ1 = .ct ρ2) ∧ I (i + 1) ρ2) : ∃ ρ', forF g b (rgD 0 n) ρ = .nx ρ' ∧ I n ρ' :=
  for_rg I h0 fun i ρ hi h => by rw [Int.zero_add]; exact hs i ρ hi h
/-- a for that may hand back: it does at the first turn that does -/
theorem for_ret {g : PEnv → D → Option PEnv} {b : PEnv → Out} (ds : List D) (I : Nat → PEnv → Prop) {ρ : PEnv} (h0 : I 0 ρ) (P : D → Prop)
    (hs : ∀ i d ρ, ds[i]? = some d → I i ρ → ∃ ρ1, g ρ d = some ρ1 ∧ ((∃ ρ2, (b ρ1 = .nx ρ2 ∨ b ρ1 = .ct ρ2) ∧ I (i + 1) ρ2) ∨ ∃ r, b ρ1 = .rt r ∧ P r)) : (∃ ρ', forF g b ds ρ = .nx ρ' ∧ I ds.length ρ') ∨ ∃ r, forF g b ds ρ = .rt r ∧ P r := by
  induction ds generalizing ρ I with
  | nil => exact .inl ⟨ρ, rfl, h0⟩
  | cons d ds ih =>
    obtain ⟨ρ1, h1, h2⟩ := hs 0 d ρ rfl h0
    rcases h2 with ⟨ρ2, h2, h3⟩ | ⟨r, h2, h3⟩
    · rcases ih (fun i => I (i + 1)) h3 fun i d' ρ' hd hi => hs (i + 1) d' ρ' hd hi with ⟨ρ', e, h⟩ | ⟨r, e, h⟩
      · refine .inl ⟨ρ', ?_, h⟩
        unfold forF; rw [h1]
        rcases h2 with h2 | h2 <;> (simp only [h2]; exact e)
      · refine .inr ⟨r, ?_, h⟩
        unfold forF; rw [h1]
        rcases h2 with h2 | h2 <;> (simp only [h2]; exact e)
    · refine .inr ⟨r, ?_, h3⟩
      unfold forF; rw [h1]; simp only [h2]
/-- a while that runs to its end -/
theorem wh_inv {c : PEnv → Rs Bool} {b : PEnv → Out} (I : Nat → PEnv → Prop) : ∀ (m : Nat) (ρ : PEnv), I m ρ →
    (∀ m ρ, I m ρ → c ρ = .ok false ∨ (c ρ = .ok true ∧ ∃ m' ρ', m' < m ∧ (b ρ = .nx ρ' ∨ b ρ = .ct ρ') ∧ I m' ρ')) → ∃ m' ρ', sWh c b ρ = .nx ρ' ∧ I m' ρ' ∧ c ρ' = .ok false := by
  intro m ρ h hs
  have key : ∀ (m : Nat) (ρ : PEnv), I m ρ → ∃ n m' ρ', whF c b n ρ = some (.nx ρ') ∧ I m' ρ' ∧ c ρ' = .ok false := by
    intro m
    induction m using Nat.strongRecOn with
    | ind m ih =>
      intro ρ h
      rcases hs m ρ h with h1 | ⟨h1, m', ρ', hm, h2, h3⟩
      · exact ⟨1, m, ρ, by rw [whF, h1], h, h1⟩
      · obtain ⟨n, m2, ρ2, e, h4, h5⟩ := ih m' hm ρ' h3
        refine ⟨n + 1, m2, ρ2, ?_, h4, h5⟩
        rw [whF, h1]
        rcases h2 with h2 | h2 <;> (simp only [h2]; exact e)
  obtain ⟨n, m', ρ', e, h1, h2⟩ := key m ρ h
  exact ⟨m', ρ', sWh_of e, h1, h2⟩
/-- a comprehension -/
theorem comp_eq {g : PEnv → D → Option PEnv} {t : PEnv → Rs Bool} {e : PEnv → Rs D} {ρ : PEnv} (p : D → Bool) (h : D → D) : ∀ (ds : List D), (∀ d ∈ ds, ∃ ρ1, g ρ d = some ρ1 ∧ t ρ1 = .ok (p d) ∧ (p d = true → e ρ1 = .ok (h d))) →
    compF g t e ρ ds = some ((ds.filter p).map h)
  | [], _ => rfl
  | d :: ds, H => by
    obtain ⟨ρ1, h1, h2, h3⟩ := H d List.mem_cons_self
    have ih := comp_eq (g := g) (t := t) (e := e) (ρ := ρ) p h ds fun x hx => H x (List.mem_cons_of_mem _ hx)
    unfold compF
    rw [h1]
    simp only [h2]
    cases hp : p d with
    | true => simp only [h3 hp, ih, List.filter_cons, hp, if_true, List.map_cons, Option.map_some]
    | false => simp only [ih, List.filter_cons, hp]; simp
/-- .. over a range, the turn a natural number -/
theorem comp_rg {g : PEnv → D → Option PEnv} {t : PEnv → Rs Bool} {e : PEnv → Rs D} {ρ : PEnv} (p : Nat → Bool) (h : Nat → D) (n : Nat) (H : ∀ k, k < n → ∃ ρ1, g ρ (.int (k : Int)) = some ρ1 ∧ t ρ1 = .ok (p k) ∧ (p k = true → e ρ1 = .ok (h k))) :
    compF g t e ρ (rgD 0 n) = some (((List.range n).filter p).map h) := by
  have key : ∀ l : List Nat, (∀ k ∈ l, k < n) → compF g t e ρ (l.map fun (k : Nat) => D.int (0 + (k : Int))) = some ((l.filter p).map h) := by
    intro l
    induction l with
    | nil => intro _; rfl
    | cons k l ih =>
      intro hl
      obtain ⟨ρ1, h1, h2, h3⟩ := H k (hl k List.mem_cons_self)
      have ih := ih fun x hx => hl x (List.mem_cons_of_mem _ hx)
      rw [List.map_cons, Int.zero_add]
      unfold compF
      rw [h1]
      simp only [h2]
      cases hp : p k with
      | true => simp only [h3 hp, ih, List.filter_cons, hp, if_true, List.map_cons, Option.map_some]
      | false => simp only [ih, List.filter_cons, hp]; simp
  exact key (List.range n) fun k hk => List.mem_range.mp hk
/-- .. over a list of things of one kind -/
theorem comp_map {α : Type} {g : PEnv → D → Option PEnv} {t : PEnv → Rs Bool} {e : PEnv → Rs D} {ρ : PEnv} (f : α → D) (p : α → Bool) (h : α → D) : ∀ (l : List α), (∀ k ∈ l, ∃ ρ1, g ρ (f k) = some ρ1 ∧ t ρ1 = .ok (p k) ∧ (p k = true → e ρ1 = .ok (h k))) →
    compF g t e ρ (l.map f) = some ((l.filter p).map h)
  | [], _ => rfl
  | k :: l, H => by
    obtain ⟨ρ1, h1, h2, h3⟩ := H k List.mem_cons_self
    have ih := comp_map (g := g) (t := t) (e := e) (ρ := ρ) f p h l fun x hx => H x (List.mem_cons_of_mem _ hx)
    rw [List.map_cons]
    unfold compF
    rw [h1]
    simp only [h2]
    cases hp : p k with
    | true => simp only [h3 hp, ih, List.filter_cons, hp, if_true, List.map_cons, Option.map_some]
    | false => simp only [ih, List.filter_cons, hp]; simp
theorem atI_map {α : Type} {f : α → D} {l : List α} {i : Nat} (h : i < l.length) : L2.atI (l.map f) (i : Int) = some (f l[i]) :=
  L2.atI_nat (by rw [List.getElem?_map, List.getElem?_eq_getElem h]; rfl)
end PL

/-! pure functions, part M: what the laws' helpers and the small defs of lots compute -/
namespace PL
namespace M
open PySem
noncomputable def B_frozen (Fr : List D → Rs D) : PEnv → Out := (sSeq (sIf (tT (eX (isiD ["list", "tuple"]) (xV 0)))
  (sRet (eX tupleD (nl (cLc [1] (iSq (eV 0)) (gN 1) (fun _ => .ok true) (eFn 1 Fr (eCons (eV 1) eNil))))))
  sNext)
  (sRet (xV 0)))
noncomputable def R_frozen : Nat → List D → Rs D
  | 0 => fun _ => .bad
  | k + 1 => runF 2 (B_frozen (R_frozen k))
noncomputable def F_frozen : List D → Rs D := R_frozen 8
noncomputable def B__law_alike : PEnv → Out := (sSeq (sSetN 2 (eLst (eCons (eTup (eCons (eV 0) (eCons (eV 1) eNil))) eNil)))
  (sSeq (sFor (iR1 (eCons (eC (.int 400000)) eNil)) (gN 3)
  (sSeq (sIf (tT (eOp geD (eV 3) (eX lenD (xV 2))))
  (sRet (eC (.bl true)))
  sNext)
  (sSeq (sSet 4 (eOp ixD (eOp ixD (xV 2) (eV 3)) (eC (.int 0))))
  (sSeq (sSet 5 (eOp ixD (eOp ixD (xV 2) (eV 3)) (eC (.int 1))))
  (sIf (tT (eX (isiD ["tuple", "list"]) (xV 5)))
  (sSeq (sIf (eOr (eNot (tT (eX (isiD ["tuple", "list"]) (xV 4)))) (eOr (tT (eOp neDD (eX (isiD ["tuple"]) (xV 4)) (eX (isiD ["tuple"]) (xV 5)))) (tT (eOp neDD (eX lenD (xV 4)) (eX lenD (xV 5))))))
  (sRet (eC (.bl false)))
  sNext)
  (sFor (iR1 (eCons (eX lenD (xV 5)) eNil)) (gN 6)
  (sApp 2 (eTup (eCons (eOp ixD (xV 4) (eV 6)) (eCons (eOp ixD (xV 5) (eV 6)) eNil))))))
  (sIf (tT (eOp isN (eV 5) (eC .non)))
  (sIf (tT (eOp notN (eV 4) (eC .non)))
  (sRet (eC (.bl false)))
  sNext)
  (sIf (tT (eX (isiD ["str"]) (xV 5)))
  (sIf (eOr (eNot (tT (eX (isiD ["str"]) (xV 4)))) (tT (eOp neDD (eV 4) (eV 5))))
  (sRet (eC (.bl false)))
  sNext)
  (sIf (eOr (eNot (tT (eX (isiD ["int"]) (xV 4)))) (eOr (tT (eOp neDD (eX (isiD ["bool"]) (xV 4)) (eX (isiD ["bool"]) (xV 5)))) (tT (eOp neDD (eV 4) (eV 5)))))
  (sRet (eC (.bl false)))
  sNext))))))))
  (sRet (eC (.bl false)))))
noncomputable def F__law_alike : List D → Rs D := runF 7 B__law_alike
noncomputable def B__law_cell : PEnv → Out := (sSeq (sIf (tT (eOp ltD (eV 1) (eX lenD (xV 0))))
  (sRet (eB intD (eCons (eOp ixD (xV 0) (eV 1)) eNil)))
  sNext)
  (sSeq (sSet 2 (eC (.int 17)))
  (sSeq (sFor (iSq (eV 0)) (gN 3)
  (sSet 2 (eOp modD (eB intD (eCons (eOp addD (eOp mulD (eV 2) (eC (.int 31))) (eOp modD (eB intD (eCons (eV 3) eNil)) (eC (.int 1000003)))) eNil)) (eC (.int 1000003)))))
  (sRet (eOp modD (eB intD (eCons (eOp mulD (eOp mulD (eOp addD (eV 2) (eC (.int 7))) (eOp addD (eV 1) (eC (.int 3)))) (eC (.int 69621))) eNil)) (eC (.int 2147483647)))))))
noncomputable def F__law_cell : List D → Rs D := runF 4 B__law_cell
noncomputable def B__law_digits : PEnv → Out := (sSeq (sSetN 2 (eLst eNil))
  (sSeq (sSet 3 (eB intD (eCons (eV 0) eNil)))
  (sSeq (sIf (tT (eOp geD (eV 3) (eOp powD (eC (.int 10)) (eC (.int 18)))))
  (sSeq (sSet 3 (eOp subD (eV 3) (eOp powD (eC (.int 10)) (eC (.int 18)))))
  (sSeq (sFor (iSq (eV 1)) (gN 6)
  (sSeq (sApp 2 (eOp modD (eB intD (eCons (eV 3) eNil)) (eV 6)))
  (sSet 3 (eOp fdivD (eB intD (eCons (eV 3) eNil)) (eV 6)))))
  (sRet (xV 2))))
  sNext)
  (sSeq (sSet 4 (eOp modD (eB intD (eCons (eV 3) eNil)) (eC (.int 2147483629))))
  (sSeq (sFor (iR1 (eCons (eX lenD (xV 1)) eNil)) (gN 5)
  (sSeq (sSet 4 (eOp modD (eB intD (eCons (eOp addD (eOp addD (eOp mulD (eV 4) (eC (.int 48271))) (eOp mulD (eC (.int 974711)) (eV 5))) (eC (.int 12345))) eNil)) (eC (.int 2147483647))))
  (sSeq (sSet 7 (eOp modD (eB intD (eCons (eOp mulD (eV 4) (eOp addD (eOp fdivD (eV 4) (eC (.int 65537))) (eC (.int 3)))) eNil)) (eC (.int 2147483629))))
  (sApp 2 (eOp modD (eOp fdivD (eV 7) (eC (.int 19))) (eOp ixD (xV 1) (eV 5)))))))
  (sRet (xV 2)))))))
noncomputable def F__law_digits : List D → Rs D := runF 8 B__law_digits
noncomputable def B_is_whole : PEnv → Out := (sRet (eAndV (eX (isiD ["int"]) (xV 0)) (eNotV (eX (isiD ["bool"]) (xV 0)))))
noncomputable def F_is_whole : List D → Rs D := runF 1 B_is_whole
noncomputable def B_full : PEnv → Out := (sRet (eOp subD (eOp shlD (eC (.int 1)) (eV 0)) (eC (.int 1))))
noncomputable def F_full : List D → Rs D := runF 1 B_full
noncomputable def B_is_lot : PEnv → Out := (sRet (eAndV (eFn 1 F_is_whole (eCons (eV 0) eNil)) (eChain leD leD (eC (.int 0)) (eV 0) (eFn 1 F_full (eCons (eV 1) eNil)))))
noncomputable def F_is_lot : List D → Rs D := runF 2 B_is_lot
noncomputable def B_items_of : PEnv → Out := (sSeq (sSetN 1 (eLst eNil))
  (sSeq (sSet 2 (eC (.int 0)))
  (sSeq (sWh (tT (eOp gtD (eOp shrD (eV 0) (eV 2)) (eC (.int 0))))
  (sSeq (sIf (tT (eOp eqDD (eOp andD (eOp shrD (eV 0) (eV 2)) (eC (.int 1))) (eC (.int 1))))
  (sApp 1 (eV 2))
  sNext)
  (sAug 2 (fun i j => i + j) (eC (.int 1)))))
  (sRet (eX tupleD (xV 1))))))
noncomputable def F_items_of : List D → Rs D := runF 3 B_items_of
noncomputable def B_size : PEnv → Out := (sRet (eX lenD (eFn 1 F_items_of (eCons (eV 0) eNil))))
noncomputable def F_size : List D → Rs D := runF 1 B_size
noncomputable def B_lot_of : PEnv → Out := (sSeq (sSet 1 (eC (.int 0)))
  (sSeq (sFor (iSq (eV 0)) (gN 2)
  (sSet 1 (eOp orD (eV 1) (eOp shlD (eC (.int 1)) (eV 2)))))
  (sRet (xV 1))))
noncomputable def F_lot_of : List D → Rs D := runF 3 B_lot_of
noncomputable def B__law_items : PEnv → Out := (sRet (nl (cLc [1] (iR1 (eCons (eC (.int 40)) eNil)) (gN 1) (tT (eOp eqDD (eOp andD (eOp shrD (eB intD (eCons (eV 0) eNil)) (eV 1)) (eC (.int 1))) (eC (.int 1)))) (eV 1))))
noncomputable def F__law_items : List D → Rs D := runF 2 B__law_items
noncomputable def B__law_count : PEnv → Out := (sRet (eX lenD (eFn 1 F__law_items (eCons (eV 0) eNil))))
noncomputable def F__law_count : List D → Rs D := runF 1 B__law_count
noncomputable def B__law_whole : PEnv → Out := (sRet (eAndV (eX (isiD ["int"]) (xV 0)) (eNotV (eX (isiD ["bool"]) (xV 0)))))
noncomputable def F__law_whole : List D → Rs D := runF 1 B__law_whole

/-! ### bits -/
theorem and_nn (a b : Nat) : Builtin.bitAnd (a : Int) (b : Int) = ((a &&& b : Nat) : Int) := by
  rw [PyProof.Rows.bitAnd_pp (by omega) (by omega)]; simp
theorem or_nn (a b : Nat) : Builtin.bitOr (a : Int) (b : Int) = ((a ||| b : Nat) : Int) := by
  rw [Bits.bitOr_pp (by omega) (by omega)]; simp
theorem shr_n (a k : Nat) : (a : Int) / 2 ^ k = ((a >>> k : Nat) : Int) := by
  rw [Nat.shiftRight_eq_div_pow]; norm_cast
theorem bit_n (a k : Nat) : Builtin.bitAnd ((a : Int) / 2 ^ k) 1 = if a.testBit k then 1 else 0 := by
  rw [shr_n, show (1 : Int) = ((1 : Nat) : Int) from rfl, and_nn, Nat.testBit]
  have h : (a >>> k) &&& 1 = (a >>> k) % 2 := Nat.and_one_is_mod _
  rw [Nat.and_comm 1, h]
  rcases Nat.mod_two_eq_zero_or_one (a >>> k) with e | e <;> rw [e] <;> rfl
/-- the items of a lot, those below b -/
def its (b n : Nat) : List Nat := (List.range b).filter fun k => n.testBit k
theorem its_mem {b n k : Nat} : k ∈ its b n ↔ k < b ∧ n.testBit k = true := by unfold its; rw [List.mem_filter, List.mem_range]
theorem its_more {b n : Nat} (h : n < 2 ^ b) : ∀ d, its (b + d) n = its b n
  | 0 => rfl
  | d + 1 => by
    have ih := its_more h d
    unfold its at ih ⊢
    rw [← Nat.add_assoc, List.range_succ, List.filter_append, ih]
    have : n.testBit (b + d) = false := Nat.testBit_lt_two_pow (Nat.lt_of_lt_of_le h (Nat.pow_le_pow_right (by omega) (by omega)))
    simp [this]
theorem its_eq {b c n : Nat} (h : n < 2 ^ b) (h' : n < 2 ^ c) : its b n = its c n := by
  rcases Nat.le_total b c with l | l
  · obtain ⟨d, rfl⟩ := Nat.exists_eq_add_of_le l; exact (its_more h d).symm
  · obtain ⟨d, rfl⟩ := Nat.exists_eq_add_of_le l; exact its_more h' d
theorem its_len (b n : Nat) : (its b n).length ≤ b := by
  unfold its
  have := List.length_filter_le (fun k => n.testBit k) (List.range b)
  rwa [List.length_range] at this

/-! ### full, is_whole, is_lot -/
theorem full_eq (w : Nat) (h : w ≤ 1000000) : F_full [.int (w : Int)] = .ok (.int (2 ^ w - 1)) := by
  have e : shlD (.int 1) (.int (w : Int)) = some (.int (2 ^ w)) := by
    rw [shl_i ⟨by omega, by omega, by decide⟩]; simp
  simp [F_full, runF, B_full, e]
theorem whole_i (i : Int) : F_is_whole [.int i] = .ok (.bl true) := by simp [F_is_whole, runF, B_is_whole, isT]
theorem whole_b (b : Bool) : F_is_whole [.bl b] = .ok (.bl false) := by simp [F_is_whole, runF, B_is_whole, isT, tagD]
theorem is_lot_i (i : Int) (w : Nat) (h : w ≤ 1000000) : F_is_lot [.int i, .int (w : Int)] = .ok (.bl (decide (0 ≤ i ∧ i ≤ 2 ^ w - 1))) := by
  simp [F_is_lot, runF, B_is_lot, whole_i, full_eq w h]
  by_cases h0 : 0 ≤ i <;> simp [h0]
theorem is_lot_b (b : Bool) (w : Nat) : F_is_lot [.bl b, .int (w : Int)] = .ok (.bl false) := by
  simp [F_is_lot, runF, B_is_lot, whole_b]

/-! ### items -/
theorem rg40 : rgO 0 40 = .ok (rgD 0 40) := rgO_n (n := 40) (by decide)
theorem law_items_eq (n : Nat) : F__law_items [.int (n : Int)] = .ok (.lst ((its 40 n).map fun (k : Nat) => D.int (k : Int))) := by
  have hc := comp_rg (g := gN 1) (t := tT (eOp eqDD (eOp andD (eOp shrD (eB intD (eCons (eV 0) eNil)) (eV 1)) (eC (.int 1))) (eC (.int 1)))) (e := eV 1) (ρ := [.fz (.int (n : Int)), .un])
    (fun k => n.testBit k) (fun (k : Nat) => D.int (k : Int)) 40 fun k hk => ⟨[.fz (.int (n : Int)), .fz (.int (k : Int))], rfl, by
      simp [shr_i (show (0 : Int) ≤ (k : Int) by omega), bit_n]
      cases n.testBit k <;> rfl, fun _ => by simp⟩
  have hl : okL (((List.range 40).filter fun k => n.testBit k).map fun (k : Nat) => D.int (k : Int)) = true := okL_of (by
    rw [List.length_map]; exact Nat.le_trans (its_len 40 n) (by decide))
  simp [F__law_items, runF, B__law_items, rg40, hc, hl, its]
theorem law_count_eq (n : Nat) : F__law_count [.int (n : Int)] = .ok (.int (its 40 n).length) := by
  simp [F__law_count, runF, B__law_count, law_items_eq]
theorem items_of_eq (n b : Nat) (h : n < 2 ^ b) (hb : b ≤ 1000) : F_items_of [.int (n : Int)] = .ok (.tup ((its b n).map fun (k : Nat) => D.int (k : Int))) := by
  obtain ⟨m, ρ', hw, ⟨j, hj, rfl, hm⟩, hc⟩ := wh_inv (c := tT (eOp gtD (eOp shrD (eV 0) (eV 2)) (eC (.int 0))))
    (b := sSeq (sIf (tT (eOp eqDD (eOp andD (eOp shrD (eV 0) (eV 2)) (eC (.int 1))) (eC (.int 1)))) (sApp 1 (eV 2)) sNext) (sAug 2 (fun i j => i + j) (eC (.int 1))))
    (fun m ρ => ∃ j : Nat, j ≤ b ∧ ρ = [.fz (.int (n : Int)), .ow ((its j n).map fun (k : Nat) => D.int (k : Int)), .fz (.int (j : Int))] ∧ m = b - j) b [.fz (.int (n : Int)), .ow [], .fz (.int 0)] ⟨0, Nat.zero_le _, rfl, rfl⟩
    (fun m ρ => by
      rintro ⟨j, hj, rfl, rfl⟩
      have hs : shrD (.int (n : Int)) (.int (j : Int)) = some (.int ((n >>> j : Nat) : Int)) := by
        rw [shr_i (by omega), Int.toNat_natCast, shr_n]
      have hz : n >>> j > 0 → j < b := fun z => by
        by_cases hjb : j < b
        · exact hjb
        · exfalso
          have e : n >>> j = 0 := by
            rw [Nat.shiftRight_eq_div_pow]
            exact Nat.div_eq_of_lt (Nat.lt_of_lt_of_le h (Nat.pow_le_pow_right (by omega) (by omega)))
          omega
      have hb1 := bit_n n j
      rw [shr_n] at hb1
      have hlen : (its j n).length < 16777216 := Nat.lt_of_le_of_lt (its_len j n) (by omega)
      have hit : its (j + 1) n = if n.testBit j then its j n ++ [j] else its j n := by
        unfold its; rw [List.range_succ, List.filter_append]
        cases hbit : n.testBit j <;> simp [hbit]
      generalize n >>> j = q at hs hz hb1
      by_cases h0 : q > 0
      · refine .inr ⟨by simp [hs]; omega, b - (j + 1), [.fz (.int (n : Int)), .ow ((its (j + 1) n).map fun (k : Nat) => D.int (k : Int)), .fz (.int ((j + 1 : Nat) : Int))], by have := hz h0; omega, .inl ?_, j + 1, hz h0, rfl, rfl⟩
        cases hbit : n.testBit j with
        | true => rw [hbit] at hb1; simp [hs, hb1, hit, hbit, hlen]
        | false => rw [hbit] at hb1; simp [hs, hb1, hit, hbit]
      · exact .inl (by simp [hs]; omega))
  have hz : n >>> j = 0 := by
    have hs : shrD (.int (n : Int)) (.int (j : Int)) = some (.int ((n >>> j : Nat) : Int)) := by
      rw [shr_i (by omega), Int.toNat_natCast, shr_n]
    generalize n >>> j = q at hs
    simp [hs] at hc
    omega
  have hlt : n < 2 ^ j := by
    rw [Nat.shiftRight_eq_div_pow] at hz
    rcases Nat.div_eq_zero_iff.mp hz with z | z
    · exact absurd z (Nat.pos_iff_ne_zero.mp (Nat.two_pow_pos j))
    · exact z
  have e := its_eq hlt h
  simp only [F_items_of, runF, B_items_of, s_seq, s_setN, e_lst, e_nil, Rs.bind_ok, List.map_cons, List.map_nil, List.length_cons, List.length_nil]
  rw [if_pos (okL_of (Nat.zero_le _))]
  simp [hw, e]
theorem size_eq (n b : Nat) (h : n < 2 ^ b) (hb : b ≤ 1000) : F_size [.int (n : Int)] = .ok (.int (its b n).length) := by
  simp [F_size, runF, B_size, items_of_eq n b h hb]
/-- the lot of some items -/
def lotN (l : List Nat) : Nat := l.foldl (fun a i => a ||| 2 ^ i) 0
theorem lot_of_go (l : List Nat) (hl : ∀ i ∈ l, i ≤ 1000000) (x : D) (hx : seqD x = some (l.map fun (k : Nat) => D.int (k : Int))) : F_lot_of [x] = .ok (.int (lotN l : Nat)) := by
  obtain ⟨ρ', hf, v, rfl⟩ := for_inv (g := gN 2) (b := sSet 1 (eOp orD (eV 1) (eOp shlD (eC (.int 1)) (eV 2)))) (l.map fun (k : Nat) => D.int (k : Int))
    (fun i ρ => ∃ v, ρ = [.fz x, .fz (.int (lotN (l.take i) : Nat)), v]) (ρ := [.fz x, .fz (.int 0), .un]) ⟨_, rfl⟩ (fun i d ρ hd => by
      rintro ⟨v, rfl⟩
      rw [List.getElem?_map] at hd
      cases hk : l[i]? with
      | none => rw [hk] at hd; cases hd
      | some k =>
        rw [hk] at hd; cases hd
        have hkm := hl k (List.mem_of_getElem? hk)
        have hs : shlD (.int 1) (.int (k : Int)) = some (.int ((2 ^ k : Nat) : Int)) := by
          rw [shl_i ⟨by omega, by omega, by decide⟩]; simp
        refine ⟨[.fz x, .fz (.int (lotN (l.take i) : Nat)), .fz (.int (k : Int))], [.fz x, .fz (.int (lotN (l.take (i + 1)) : Nat)), .fz (.int (k : Int))], rfl, .inl ?_, _, rfl⟩
        have ht : l.take (i + 1) = l.take i ++ [k] := by rw [List.take_add_one, hk]; rfl
        have hL : lotN (l.take (i + 1)) = lotN (l.take i) ||| 2 ^ k := by rw [ht]; simp [lotN]
        rw [hL]
        generalize 2 ^ k = q at hs
        simp [hs, or_nn])
  rw [List.length_map] at hf
  simp [F_lot_of, runF, B_lot_of, hx, hf]

/-! ### alike -/
mutual
inductive Pl : D → Nat → Prop
  | non : Pl .non 1
  | bl (b : Bool) : Pl (.bl b) 1
  | int (i : Int) : Pl (.int i) 1
  | str (i : Str) (h : PyData.strOk i = true) : Pl (.str i) 1
  | tup {ds : List D} {n : Nat} (h : PlL ds n) : Pl (.tup ds) (n + 1)
  | lst {ds : List D} {n : Nat} (h : PlL ds n) : Pl (.lst ds) (n + 1)
  | scl {ds : List D} {n : Nat} (h : PlL ds n) : Pl (.scl ds) (n + 1)
inductive PlL : List D → Nat → Prop
  | nil : PlL [] 0
  | cons {d : D} {ds : List D} {n m : Nat} (h : Pl d n) (t : PlL ds m) : PlL (d :: ds) (n + m)
end
theorem pl_pos {d : D} {n : Nat} (h : Pl d n) : 1 ≤ n := by cases h <;> omega
theorem pll_len : ∀ {ds : List D} {n : Nat}, PlL ds n → ds.length ≤ n
  | [], _, _ => Nat.zero_le _
  | d :: ds, _, h => by
    cases h with
    | cons h t => have := pll_len t; have := pl_pos h; rw [List.length_cons]; omega
theorem pll_app : ∀ {ds es : List D} {n m : Nat}, PlL ds n → PlL es m → PlL (ds ++ es) (n + m)
  | [], _, _, _, h, t => by cases h; rw [Nat.zero_add]; exact t
  | d :: ds, _, _, _, h, t => by
    cases h with
    | cons h h' => rw [Nat.add_assoc]; exact .cons h (pll_app h' t)
theorem pll_ints : ∀ (l : List Int), PlL (l.map D.int) l.length
  | [] => .nil
  | i :: l => by rw [List.length_cons, Nat.add_comm]; exact .cons (.int i) (pll_ints l)
theorem pll_nats (l : List Nat) : PlL (l.map fun (k : Nat) => D.int (k : Int)) l.length := by
  have := pll_ints (l.map fun (k : Nat) => (k : Int)); rwa [List.map_map, List.length_map] at this
def prs (l : List D) : List D := l.map fun x => .tup [x, x]
theorem prs_app (a b : List D) : prs (a ++ b) = prs a ++ prs b := List.map_append
/-- the inner loop of the comparison: it adds the pairs of the parts -/
theorem alike_in {x : D} {ds : List D} (hix : ∀ i : Nat, ixD x (.int (i : Int)) = L2.atI ds (i : Int)) {a0 a1 a3 : SV} {ps : List D} (hl : ps.length + ds.length < 16777216) (v6 : SV) :
    ∃ v6', forF (gN 6) (sApp 2 (eTup (eCons (eOp ixD (xV 4) (eV 6)) (eCons (eOp ixD (xV 5) (eV 6)) eNil)))) (rgD 0 ds.length) [a0, a1, .ow ps, a3, .fz x, .fz x, v6] = .nx [a0, a1, .ow (ps ++ prs ds), a3, .fz x, .fz x, v6'] := by
  obtain ⟨ρ', h, v, rfl⟩ := for_r0 (g := gN 6) (b := sApp 2 (eTup (eCons (eOp ixD (xV 4) (eV 6)) (eCons (eOp ixD (xV 5) (eV 6)) eNil)))) (n := ds.length)
    (fun i ρ => ∃ v, ρ = [a0, a1, .ow (ps ++ prs (ds.take i)), a3, .fz x, .fz x, v]) (ρ := [a0, a1, .ow ps, a3, .fz x, .fz x, v6]) ⟨v6, by simp [prs]⟩ (fun i ρ hi => by
      rintro ⟨v, rfl⟩
      refine ⟨[a0, a1, .ow (ps ++ prs (ds.take i)), a3, .fz x, .fz x, .fz (.int (i : Int))], [a0, a1, .ow (ps ++ prs (ds.take (i + 1))), a3, .fz x, .fz x, .fz (.int (i : Int))], rfl, .inl ?_, _, rfl⟩
      have ha : L2.atI ds (i : Int) = some ds[i] := L2.atI_nat (by rw [List.getElem?_eq_getElem hi])
      have ht : ds.take (i + 1) = ds.take i ++ [ds[i]] := by rw [List.take_add_one, List.getElem?_eq_getElem hi]; rfl
      have hl' : (ps ++ prs (ds.take i)).length < 16777216 := by
        rw [List.length_append, prs, List.length_map, List.length_take]; omega
      have ho : okL [ds[i], ds[i]] = true := rfl
      have hix' := hix i
      rw [ha] at hix'
      rw [ht, prs_app, ← List.append_assoc]
      generalize ps ++ prs (ds.take i) = q at hl' ⊢
      simp [hix', ho, hl', prs])
  rw [List.take_length] at h
  exact ⟨v, h⟩
theorem eq_str (a : Str) (h : PyData.strOk a = true) : eqD (.str a) (.str a) = some true := by
  simp [eqD, pyd, SeqAt.shaped, PyData.canLay0, PyData.depth, PyData.eqv, h]
theorem ne_str (a : Str) (h : PyData.strOk a = true) : neDD (.str a) (.str a) = some (.bl false) := by unfold neDD; rw [eq_str a h]; rfl
noncomputable def alikeB : PEnv → Out := (sSeq (sIf (tT (eOp geD (eV 3) (eX lenD (xV 2))))
  (sRet (eC (.bl true)))
  sNext)
  (sSeq (sSet 4 (eOp ixD (eOp ixD (xV 2) (eV 3)) (eC (.int 0))))
  (sSeq (sSet 5 (eOp ixD (eOp ixD (xV 2) (eV 3)) (eC (.int 1))))
  (sIf (tT (eX (isiD ["tuple", "list"]) (xV 5)))
  (sSeq (sIf (eOr (eNot (tT (eX (isiD ["tuple", "list"]) (xV 4)))) (eOr (tT (eOp neDD (eX (isiD ["tuple"]) (xV 4)) (eX (isiD ["tuple"]) (xV 5)))) (tT (eOp neDD (eX lenD (xV 4)) (eX lenD (xV 5))))))
  (sRet (eC (.bl false)))
  sNext)
  (sFor (iR1 (eCons (eX lenD (xV 5)) eNil)) (gN 6)
  (sApp 2 (eTup (eCons (eOp ixD (xV 4) (eV 6)) (eCons (eOp ixD (xV 5) (eV 6)) eNil))))))
  (sIf (tT (eOp isN (eV 5) (eC .non)))
  (sIf (tT (eOp notN (eV 4) (eC .non)))
  (sRet (eC (.bl false)))
  sNext)
  (sIf (tT (eX (isiD ["str"]) (xV 5)))
  (sIf (eOr (eNot (tT (eX (isiD ["str"]) (xV 4)))) (tT (eOp neDD (eV 4) (eV 5))))
  (sRet (eC (.bl false)))
  sNext)
  (sIf (eOr (eNot (tT (eX (isiD ["int"]) (xV 4)))) (eOr (tT (eOp neDD (eX (isiD ["bool"]) (xV 4)) (eX (isiD ["bool"]) (xV 5)))) (tT (eOp neDD (eV 4) (eV 5)))))
  (sRet (eC (.bl false)))
  sNext)))))))

/-- the parts of a thing, with their nodes -/
inductive Kids : D → List D → Nat → Prop
  | non : Kids .non [] 0
  | bl (b : Bool) : Kids (.bl b) [] 0
  | int (i : Int) : Kids (.int i) [] 0
  | str (i : Str) (h : PyData.strOk i = true) : Kids (.str i) [] 0
  | tup {ds : List D} {n : Nat} (h : PlL ds n) : Kids (.tup ds) ds n
  | lst {ds : List D} {n : Nat} (h : PlL ds n) : Kids (.lst ds) ds n
  | scl {ds : List D} {n : Nat} (h : PlL ds n) : Kids (.scl ds) ds n
theorem kids_of {d : D} {n : Nat} (h : Pl d n) : ∃ ds m, Kids d ds m ∧ n = m + 1 ∧ PlL ds m := by
  cases h with
  | non => exact ⟨_, _, .non, rfl, .nil⟩
  | bl => exact ⟨_, _, .bl _, rfl, .nil⟩
  | int => exact ⟨_, _, .int _, rfl, .nil⟩
  | str _ h => exact ⟨_, _, .str _ h, rfl, .nil⟩
  | tup h => exact ⟨_, _, .tup h, rfl, h⟩
  | lst h => exact ⟨_, _, .lst h, rfl, h⟩
  | scl h => exact ⟨_, _, .scl h, rfl, h⟩
theorem alike_step {a0 a1 v4 v5 : SV} (v6 : SV) {ps : List D} {k : Nat} {x : D} {ds : List D} {n : Nat} (hk : ps[k]? = some (.tup [x, x])) (hx : Kids x ds n) (hl : ps.length + ds.length < 16777216) :
    ∃ v6', alikeB [a0, a1, .ow ps, .fz (.int (k : Int)), v4, v5, v6] = .nx [a0, a1, .ow (ps ++ prs ds), .fz (.int (k : Int)), .fz x, .fz x, v6'] := by
  have hix : L2.atI ps (k : Int) = some (.tup [x, x]) := L2.atI_nat hk
  have h0 : L2.atI [x, x] 0 = some x := rfl
  have h1 : L2.atI [x, x] 1 = some x := rfl
  have hkl : k < ps.length := by
    rcases Nat.lt_or_ge k ps.length with h | h
    · exact h
    · rw [List.getElem?_eq_none h] at hk; cases hk
  have hge : ¬ ((ps.length : Int) ≤ (k : Int)) := by omega
  have hr : rgO 0 (ds.length : Int) = .ok (rgD 0 ds.length) := rgO_n (by omega)
  cases hx with
  | non => exact ⟨v6, by simp [alikeB, hix, h0, h1, hge, isT, tagD, prs]⟩
  | bl b => exact ⟨v6, by simp [alikeB, hix, h0, h1, hge, isT, tagD, isNone, prs]⟩
  | int i => exact ⟨v6, by simp [alikeB, hix, h0, h1, hge, isT, tagD, prs]⟩
  | str s hs => exact ⟨v6, by simp [alikeB, hix, h0, h1, hge, isT, tagD, isNone, ne_str s hs, prs]⟩
  | tup hds =>
    obtain ⟨v6', hin⟩ := alike_in (x := .tup ds) (ds := ds) (fun i => rfl) (a0 := a0) (a1 := a1) (a3 := .fz (.int (k : Int))) (ps := ps) hl v6
    exact ⟨v6', by simp [alikeB, hix, h0, h1, hge, isT, tagD, hr]; exact hin⟩
  | lst hds =>
    obtain ⟨v6', hin⟩ := alike_in (x := .lst ds) (ds := ds) (fun i => rfl) (a0 := a0) (a1 := a1) (a3 := .fz (.int (k : Int))) (ps := ps) hl v6
    exact ⟨v6', by simp [alikeB, hix, h0, h1, hge, isT, tagD, hr]; exact hin⟩
  | scl hds =>
    obtain ⟨v6', hin⟩ := alike_in (x := .scl ds) (ds := ds) (fun i => rfl) (a0 := a0) (a1 := a1) (a3 := .fz (.int (k : Int))) (ps := ps) hl v6
    exact ⟨v6', by simp [alikeB, hix, h0, h1, hge, isT, tagD, hr]; exact hin⟩
theorem alike_go {d : D} {n : Nat} (h : Pl d n) (N : Nat) (hn : n < N) (hN : N ≤ 16777216) : forF (gN 3) alikeB (rgD 0 N) [.fz d, .fz d, .ow [.tup [d, d]], .un, .un, .un, .un] = .rt (.bl true) := by
  have key := for_ret (g := gN 3) (b := alikeB) (rgD 0 N) (fun k ρ => ∃ ps l m v3 v4 v5 v6, ρ = [.fz d, .fz d, .ow ps, v3, v4, v5, v6] ∧ ps.length = k + List.length l ∧ ps.drop k = prs l ∧ PlL l m ∧ k + m ≤ n)
    (ρ := [.fz d, .fz d, .ow [.tup [d, d]], .un, .un, .un, .un]) ⟨[.tup [d, d]], [d], n, .un, .un, .un, .un, rfl, rfl, rfl, by have := PlL.cons h .nil; simpa using this, by omega⟩ (fun r => r = .bl true) (fun k dk ρ hk => by
      rintro ⟨ps, l, m, v3, v4, v5, v6, rfl, hlen, hdrop, hpl, hkn⟩
      obtain ⟨hk1, rfl⟩ := rgD_get hk
      rw [Int.zero_add]
      refine ⟨[.fz d, .fz d, .ow ps, .fz (.int (k : Int)), v4, v5, v6], rfl, ?_⟩
      cases hpl with
      | nil =>
        refine .inr ⟨.bl true, ?_, rfl⟩
        have : ps.length = k := by simpa using hlen
        simp [alikeB, this]
      | @cons x l n' m' hx hl =>
        left
        rw [List.length_cons] at hlen
        have hat : ps[k]? = some (.tup [x, x]) := by
          have : (ps.drop k)[0]? = some (.tup [x, x]) := by rw [hdrop]; rfl
          rwa [List.getElem?_drop] at this
        have hdrop' : ps.drop (k + 1) = prs l := by
          rw [← List.drop_drop, hdrop]; rfl
        have hb := pll_len hl
        obtain ⟨ds, n2, hkid, rfl, hds⟩ := kids_of hx
        have hb2 := pll_len hds
        obtain ⟨v6', hst⟩ := alike_step (a0 := .fz d) (a1 := .fz d) (v4 := v4) (v5 := v5) v6 hat hkid (by omega)
        exact ⟨_, .inl hst, ps ++ prs ds, l ++ ds, m' + n2, _, _, _, _, rfl, by rw [List.length_append, List.length_append, prs, List.length_map]; omega, by
            rw [List.drop_append_of_le_length (by omega), hdrop', prs_app], pll_app hl hds, by omega⟩)
  rcases key with ⟨ρ', h1, ps, l, m, v3, v4, v5, v6, rfl, _, _, _, hkn⟩ | ⟨r, h1, rfl⟩
  · rw [rgD_len] at hkn; omega
  · exact h1
theorem alike_same {d : D} {n : Nat} (h : Pl d n) (hn : n < 400000) : F__law_alike [d, d] = .ok (.bl true) := by
  have h1 := alike_go h 400000 hn (by decide)
  have ho : okL [d, d] = true := okL_of (Nat.le_of_ble_eq_true rfl)
  have ho1 : okL [D.tup [d, d]] = true := okL_of (Nat.le_of_ble_eq_true rfl)
  have hr : iR1 (eCons (eC (.int 400000)) eNil) [.fz d, .fz d, .ow [.tup [d, d]], .un, .un, .un, .un] = .ok (rgD 0 400000) := by
    simp only [i_r1, e_cons, e_c, e_nil, Rs.bind_ok]
    exact rgO_n (n := 400000) (by decide)
  have hb : B__law_alike = sSeq (sSetN 2 (eLst (eCons (eTup (eCons (eV 0) (eCons (eV 1) eNil))) eNil))) (sSeq (sFor (iR1 (eCons (eC (.int 400000)) eNil)) (gN 3) alikeB) (sRet (eC (.bl false)))) := rfl
  unfold F__law_alike runF
  rw [hb]
  have e0 : ([d, d].map SV.fz ++ List.replicate (7 - [d, d].length) SV.un) = [.fz d, .fz d, .un, .un, .un, .un, .un] := rfl
  rw [e0]
  simp [ho, ho1, hr, h1, -i_r1]

/-! ### cells and digits -/
theorem cell_loop (ns : List Int) (a0 a1 : SV) (v : SV) : ∃ (c : Int) (v' : SV), 0 ≤ c ∧ c < 1000003 ∧ forF (gN 3) (sSet 2 (eOp modD (eB intD (eCons (eOp addD (eOp mulD (eV 2) (eC (.int 31))) (eOp modD (eB intD (eCons (eV 3) eNil)) (eC (.int 1000003)))) eNil)) (eC (.int 1000003)))) (ns.map D.int) [a0, a1, .fz (.int 17), v] = .nx [a0, a1, .fz (.int c), v'] := by
  obtain ⟨ρ', h, c, v', h0, h1, rfl⟩ := for_inv (g := gN 3) (b := sSet 2 (eOp modD (eB intD (eCons (eOp addD (eOp mulD (eV 2) (eC (.int 31))) (eOp modD (eB intD (eCons (eV 3) eNil)) (eC (.int 1000003)))) eNil)) (eC (.int 1000003)))) (ns.map D.int)
    (fun _ ρ => ∃ (c : Int) (v : SV), 0 ≤ c ∧ c < 1000003 ∧ ρ = [a0, a1, .fz (.int c), v]) (ρ := [a0, a1, .fz (.int 17), v]) ⟨17, v, by decide, by decide, rfl⟩ (fun i d ρ hd => by
      rintro ⟨c, v, h0, h1, rfl⟩
      rw [List.getElem?_map] at hd
      cases hk : ns[i]? with
      | none => rw [hk] at hd; cases hd
      | some n =>
        rw [hk] at hd; cases hd
        refine ⟨[a0, a1, .fz (.int c), .fz (.int n)], [a0, a1, .fz (.int ((c * 31 + n % 1000003) % 1000003)), .fz (.int n)], rfl, .inl ?_, _, _, by omega, by omega, rfl⟩
        have e1 : mulD (.int c) (.int 31) = some (.int (c * 31)) := mul_r (by decide)
        have e2 : ∀ x : Int, modD (.int x) (.int 1000003) = some (.int (x % 1000003)) := fun x => mod_i (by decide)
        simp [e1, e2])
  exact ⟨c, v', h0, h1, h⟩
theorem cell_ex (ns : List Int) (k : Nat) (hk : k < 1000000) : ∃ c : Int, F__law_cell [.scl (ns.map D.int), .int (k : Int)] = .ok (.int c) := by
  by_cases h : k < ns.length
  · have e : L2.atI (ns.map D.int) (k : Int) = some (.int ns[k]) := atI_map h
    refine ⟨ns[k], ?_⟩
    have hl : (k : Int) < (ns.length : Int) := by omega
    simp [F__law_cell, runF, B__law_cell, e, hl]
  · obtain ⟨c, v', h0, h1, hf⟩ := cell_loop ns (.fz (.scl (ns.map D.int))) (.fz (.int (k : Int))) .un
    have e1 : mulD (.int (c + 7)) (.int ((k : Int) + 3)) = some (.int ((c + 7) * ((k : Int) + 3))) := mul_l ⟨by omega, by omega⟩
    have e2 : ∀ x : Int, mulD (.int x) (.int 69621) = some (.int (x * 69621)) := fun x => mul_r (by decide)
    have e3 : ∀ x : Int, modD (.int x) (.int 2147483647) = some (.int (x % 2147483647)) := fun x => mod_i (by decide)
    have hl : ¬ (k : Int) < (ns.length : Int) := by omega
    exact ⟨((c + 7) * ((k : Int) + 3) * 69621) % 2147483647, by simp [F__law_cell, runF, B__law_cell, hl, hf, e1, e2, e3]⟩
/-- a row fits its sizes -/
def Fits (row sizes : List Nat) : Prop := row.length = sizes.length ∧ ∀ (i s : Nat), sizes[i]? = some s → ∃ r, row[i]? = some r ∧ r < s
def upto (row sizes : List Nat) (n : Nat) : Prop := row.length = n ∧ ∀ (i s : Nat), i < n → sizes[i]? = some s → ∃ r, row[i]? = some r ∧ r < s
theorem upto_more {row sizes : List Nat} {n s r : Nat} (h : upto row sizes n) (hs : sizes[n]? = some s) (hr : r < s) : upto (row ++ [r]) sizes (n + 1) :=
  ⟨by rw [List.length_append, h.1]; rfl, fun i s' hi hs' => by
    by_cases hin : i < n
    · obtain ⟨r', h1, h2⟩ := h.2 i s' hin hs'
      exact ⟨r', by rw [List.getElem?_append_left (by rw [h.1]; exact hin)]; exact h1, h2⟩
    · obtain rfl : i = n := by omega
      rw [hs] at hs'; cases hs'
      exact ⟨r, by rw [← h.1]; simp, hr⟩⟩
theorem fits_of {row sizes : List Nat} (h : upto row sizes sizes.length) : Fits row sizes := ⟨h.1, fun i s hs => h.2 i s (by
  rcases Nat.lt_or_ge i sizes.length with z | z
  · exact z
  · rw [List.getElem?_eq_none z] at hs; cases hs) hs⟩
def nats (l : List Nat) : List D := l.map fun (k : Nat) => D.int (k : Int)
theorem nats_app (a b : List Nat) : nats (a ++ b) = nats a ++ nats b := List.map_append
theorem nats_one (a : Nat) : nats [a] = [.int (a : Int)] := rfl
theorem nats_nil : nats [] = [] := rfl
theorem nats_len (a : List Nat) : (nats a).length = a.length := List.length_map _
theorem nats_get {l : List Nat} {i : Nat} {d : D} (h : (nats l)[i]? = some d) : ∃ k, l[i]? = some k ∧ d = .int (k : Int) := by
  unfold nats at h; rw [List.getElem?_map] at h
  cases hk : l[i]? with
  | none => rw [hk] at h; cases h
  | some k => rw [hk] at h; cases h; exact ⟨k, rfl, rfl⟩
theorem nats_at {l : List Nat} {i k : Nat} (h : l[i]? = some k) : L2.atI (nats l) (i : Int) = some (.int (k : Int)) := L2.atI_nat (by unfold nats; rw [List.getElem?_map, h]; rfl)
theorem mod_nat (x : Int) (s : Nat) (h : 0 < s) : ∃ r : Nat, r < s ∧ x % (s : Int) = (r : Int) := by
  have h1 := Int.emod_nonneg x (show (s : Int) ≠ 0 by omega)
  have h2 := Int.emod_lt_of_pos x (show (0 : Int) < (s : Int) by omega)
  exact ⟨(x % (s : Int)).toNat, by omega, by omega⟩
theorem digits_ex (c : Int) (sizes : List Nat) (hs : ∀ s ∈ sizes, 0 < s ∧ s < 1000000000) (hl : sizes.length ≤ 1000000) : ∃ row : List Nat, Fits row sizes ∧ F__law_digits [.int c, .lst (nats sizes)] = .ok (.lst (nats row)) := by
  have hp : powD (.int 10) (.int 18) = some (.int 1000000000000000000) := pow_i (by decide)
  by_cases hc : (1000000000000000000 : Int) ≤ c
  · obtain ⟨ρ', h, row, q, v, hu, rfl⟩ := for_inv (g := gN 6) (b := sSeq (sApp 2 (eOp modD (eB intD (eCons (eV 3) eNil)) (eV 6))) (sSet 3 (eOp fdivD (eB intD (eCons (eV 3) eNil)) (eV 6)))) (nats sizes)
      (fun n ρ => ∃ (row : List Nat) (q : Int) (v : SV), upto row sizes n ∧ ρ = [.fz (.int c), .fz (.lst (nats sizes)), .ow (nats row), .fz (.int q), .un, .un, v, .un])
      (ρ := [.fz (.int c), .fz (.lst (nats sizes)), .ow (nats []), .fz (.int (c - 1000000000000000000)), .un, .un, .un, .un]) ⟨[], _, .un, ⟨rfl, fun i s hi => absurd hi (Nat.not_lt_zero _)⟩, rfl⟩ (fun n d ρ hd => by
        rintro ⟨row, q, v, hu, rfl⟩
        obtain ⟨s, hk, rfl⟩ := nats_get hd
        obtain ⟨h0, h1⟩ := hs s (List.mem_of_getElem? hk)
        obtain ⟨r, hr, er⟩ := mod_nat q s h0
        have hlr : (nats row).length < 16777216 := by
          rw [nats_len, hu.1]
          have : n < sizes.length := by
            rcases Nat.lt_or_ge n sizes.length with z | z
            · exact z
            · rw [List.getElem?_eq_none z] at hk; cases hk
          omega
        refine ⟨[.fz (.int c), .fz (.lst (nats sizes)), .ow (nats row), .fz (.int q), .un, .un, .fz (.int (s : Int)), .un], [.fz (.int c), .fz (.lst (nats sizes)), .ow (nats (row ++ [r])), .fz (.int (q / (s : Int))), .un, .un, .fz (.int (s : Int)), .un], rfl, .inl ?_, row ++ [r], _, _, upto_more hu hk hr, rfl⟩
        have e1 : modD (.int q) (.int (s : Int)) = some (.int (r : Int)) := by rw [mod_i (by omega), er]
        have e2 : fdivD (.int q) (.int (s : Int)) = some (.int (q / (s : Int))) := fdiv_i ⟨by omega, by omega⟩
        rw [nats_app, nats_one]
        simp [e1, e2, hlr])
    rw [nats_len] at hu
    have ho : okL [] = true := okL_of (Nat.zero_le _)
    refine ⟨row, fits_of hu, ?_⟩
    rw [nats_nil] at h
    simp [F__law_digits, runF, B__law_digits, hp, hc, h, ho]
  · obtain ⟨ρ', h, row, q, v1, v2, hu, hq0, hq1, rfl⟩ := for_r0 (g := gN 5) (b := (sSeq (sSet 4 (eOp modD (eB intD (eCons (eOp addD (eOp addD (eOp mulD (eV 4) (eC (.int 48271))) (eOp mulD (eC (.int 974711)) (eV 5))) (eC (.int 12345))) eNil)) (eC (.int 2147483647))))
  (sSeq (sSet 7 (eOp modD (eB intD (eCons (eOp mulD (eV 4) (eOp addD (eOp fdivD (eV 4) (eC (.int 65537))) (eC (.int 3)))) eNil)) (eC (.int 2147483629))))
  (sApp 2 (eOp modD (eOp fdivD (eV 7) (eC (.int 19))) (eOp ixD (xV 1) (eV 5))))))) (n := sizes.length)
      (fun n ρ => ∃ (row : List Nat) (q : Int) (v1 v2 : SV), upto row sizes n ∧ 0 ≤ q ∧ q < 2147483647 ∧ ρ = [.fz (.int c), .fz (.lst (nats sizes)), .ow (nats row), .fz (.int c), .fz (.int q), v1, .un, v2])
      (ρ := [.fz (.int c), .fz (.lst (nats sizes)), .ow (nats []), .fz (.int c), .fz (.int (c % 2147483629)), .un, .un, .un]) ⟨[], _, .un, .un, ⟨rfl, fun i s hi => absurd hi (Nat.not_lt_zero _)⟩, by omega, by omega, rfl⟩ (fun n ρ hn => by
        rintro ⟨row, q, v1, v2, hu, hq0, hq1, rfl⟩
        have hk : sizes[n]? = some sizes[n] := List.getElem?_eq_getElem hn
        generalize sizes[n] = s at hk
        obtain ⟨h0, h1⟩ := hs s (List.mem_of_getElem? hk)
        have hlr : (nats row).length < 16777216 := by rw [nats_len, hu.1]; omega
        have e1 : mulD (.int q) (.int 48271) = some (.int (q * 48271)) := mul_r (by decide)
        have e2 : mulD (.int 974711) (.int (n : Int)) = some (.int (974711 * (n : Int))) := mul_l (by decide)
        have e3 : ∀ x : Int, modD (.int x) (.int 2147483647) = some (.int (x % 2147483647)) := fun x => mod_i (by decide)
        have e4 : ∀ x : Int, modD (.int x) (.int 2147483629) = some (.int (x % 2147483629)) := fun x => mod_i (by decide)
        have e5 : ∀ x : Int, fdivD (.int x) (.int 65537) = some (.int (x / 65537)) := fun x => fdiv_i (by decide)
        have e6 : ∀ x : Int, fdivD (.int x) (.int 19) = some (.int (x / 19)) := fun x => fdiv_i (by decide)
        have hx0 : 0 ≤ (q * 48271 + 974711 * (n : Int) + 12345) % 2147483647 := by omega
        have hx1 : (q * 48271 + 974711 * (n : Int) + 12345) % 2147483647 < 2147483647 := by omega
        generalize hx : (q * 48271 + 974711 * (n : Int) + 12345) % 2147483647 = x at hx0 hx1
        have e7 : mulD (.int x) (.int (x / 65537 + 3)) = some (.int (x * (x / 65537 + 3))) := mul_l ⟨by omega, by omega⟩
        obtain ⟨r, hr, er⟩ := mod_nat (x * (x / 65537 + 3) % 2147483629 / 19) s h0
        have e8 : modD (.int (x * (x / 65537 + 3) % 2147483629 / 19)) (.int (s : Int)) = some (.int (r : Int)) := by rw [mod_i (by omega), er]
        have e9 := nats_at hk
        refine ⟨[.fz (.int c), .fz (.lst (nats sizes)), .ow (nats row), .fz (.int c), .fz (.int q), .fz (.int (n : Int)), .un, v2], [.fz (.int c), .fz (.lst (nats sizes)), .ow (nats (row ++ [r])), .fz (.int c), .fz (.int x), .fz (.int (n : Int)), .un, .fz (.int (x * (x / 65537 + 3) % 2147483629))], rfl, .inl ?_, row ++ [r], _, _, _, upto_more hu hk hr, hx0, hx1, rfl⟩
        rw [nats_app, nats_one]
        simp [e1, e2, e3, e4, e5, e6, hx, e7, e8, e9, hlr])
    have ho : okL [] = true := okL_of (Nat.zero_le _)
    have e4 : ∀ x : Int, modD (.int x) (.int 2147483629) = some (.int (x % 2147483629)) := fun x => mod_i (by decide)
    have hr : rgO 0 (sizes.length : Int) = .ok (rgD 0 sizes.length) := rgO_n (by omega)
    refine ⟨row, fits_of hu, ?_⟩
    rw [nats_nil] at h
    simp [F__law_digits, runF, B__law_digits, hp, hc, h, ho, e4, nats_len, hr]
/-! ### frozen, on plain numbers -/
theorem frozen_i (i : Int) : F_frozen [.int i] = .ok (.int i) := by
  have e : F_frozen = runF 2 (B_frozen (R_frozen 7)) := rfl
  rw [e]
  simp [runF, B_frozen, isT]
theorem frozen_b (b : Bool) : F_frozen [.bl b] = .ok (.bl b) := by
  have e : F_frozen = runF 2 (B_frozen (R_frozen 7)) := rfl
  rw [e]
  simp [runF, B_frozen, isT, tagD]
end M
end PL

/-! the walk of law_k80_codes_whole, printed by gen.py -/
namespace K80
open PySem PySem.Spec PyProof.Rows L2 PL
def topS (i : Nat) : Stmt := PySem.Challenge.pw_bestbyeach_k80_codes_whole.main.body.getD i (.Pass ⟨0, 0, 0, 0⟩)
abbrev s__law_cell : Stmt := topS 26
theorem sc__law_cell : FnScope ["script", "k", "seed", "cell"] ["script", "k"] (defScope s__law_cell) := ⟨rfl, rfl, rfl, by decide +kernel, rfl, by decide +kernel, by decide +kernel⟩
abbrev s__law_digits : Stmt := topS 27
theorem sc__law_digits : FnScope ["cell", "sizes", "row", "rest", "seed", "k", "limit", "twice"] ["cell", "sizes"] (defScope s__law_digits) := ⟨rfl, rfl, rfl, by decide +kernel, rfl, by decide +kernel, by decide +kernel⟩
abbrev s__law_items : Stmt := topS 28
theorem sc__law_items : FnScope ["lot", "k"] ["lot"] (defScope s__law_items) := ⟨rfl, rfl, rfl, by decide +kernel, rfl, by decide +kernel, by decide +kernel⟩
abbrev s__law_count : Stmt := topS 29
theorem sc__law_count : FnScope ["lot"] ["lot"] (defScope s__law_count) := ⟨rfl, rfl, rfl, by decide +kernel, rfl, by decide +kernel, by decide +kernel⟩
abbrev s__law_size_order : Stmt := topS 30
theorem sc__law_size_order : FnScope ["width", "many", "order", "count", "lot"] ["width"] (defScope s__law_size_order) := ⟨rfl, rfl, rfl, by decide +kernel, rfl, by decide +kernel, by decide +kernel⟩
abbrev s_choose : Stmt := topS 13
theorem sc_choose : FnScope ["many", "some", "ways", "at"] ["many", "some"] (defScope s_choose) := ⟨rfl, rfl, rfl, by decide +kernel, rfl, by decide +kernel, by decide +kernel⟩
abbrev s_top_states : Stmt := topS 15
theorem sc_top_states : FnScope ["width", "many", "some"] ["width", "many"] (defScope s_top_states) := ⟨rfl, rfl, rfl, by decide +kernel, rfl, by decide +kernel, by decide +kernel⟩
abbrev s__law_alike : Stmt := topS 24
theorem sc__law_alike : FnScope ["told", "due", "pairs", "k", "one", "two", "at"] ["told", "due"] (defScope s__law_alike) := ⟨rfl, rfl, rfl, by decide +kernel, rfl, by decide +kernel, by decide +kernel⟩
abbrev s_is_whole : Stmt := topS 10
theorem sc_is_whole : FnScope ["value"] ["value"] (defScope s_is_whole) := ⟨rfl, rfl, rfl, by decide +kernel, rfl, by decide +kernel, by decide +kernel⟩
abbrev s_frozen : Stmt := topS 1
theorem sc_frozen : FnScope ["value", "part"] ["value"] (defScope s_frozen) := ⟨rfl, rfl, rfl, by decide +kernel, rfl, by decide +kernel, by decide +kernel⟩
abbrev s_check_code : Stmt := topS 18
theorem sc_check_code : FnScope ["width", "many", "code"] ["width", "many", "code"] (defScope s_check_code) := ⟨rfl, rfl, rfl, by decide +kernel, rfl, by decide +kernel, by decide +kernel⟩
abbrev s_greatest_within : Stmt := topS 19
theorem sc_greatest_within : FnScope ["rest", "some", "width", "item"] ["rest", "some", "width"] (defScope s_greatest_within) := ⟨rfl, rfl, rfl, by decide +kernel, rfl, by decide +kernel, by decide +kernel⟩
abbrev s_coded_state : Stmt := topS 20
theorem sc_coded_state : FnScope ["width", "many", "code", "rest", "some", "lot", "back", "left", "item"] ["width", "many", "code"] (defScope s_coded_state) := ⟨rfl, rfl, rfl, by decide +kernel, rfl, by decide +kernel, by decide +kernel⟩
abbrev s_full : Stmt := topS 6
theorem sc_full : FnScope ["width"] ["width"] (defScope s_full) := ⟨rfl, rfl, rfl, by decide +kernel, rfl, by decide +kernel, by decide +kernel⟩
abbrev s_is_lot : Stmt := topS 11
theorem sc_is_lot : FnScope ["value", "width"] ["value", "width"] (defScope s_is_lot) := ⟨rfl, rfl, rfl, by decide +kernel, rfl, by decide +kernel, by decide +kernel⟩
abbrev s_items_of : Stmt := topS 8
theorem sc_items_of : FnScope ["lot", "found", "item"] ["lot"] (defScope s_items_of) := ⟨rfl, rfl, rfl, by decide +kernel, rfl, by decide +kernel, by decide +kernel⟩
abbrev s_size : Stmt := topS 9
theorem sc_size : FnScope ["lot"] ["lot"] (defScope s_size) := ⟨rfl, rfl, rfl, by decide +kernel, rfl, by decide +kernel, by decide +kernel⟩
abbrev s_state_code : Stmt := topS 17
theorem sc_state_code : FnScope ["width", "many", "lot", "listed", "code", "at", "some"] ["width", "many", "lot"] (defScope s_state_code) := ⟨rfl, rfl, rfl, by decide +kernel, rfl, by decide +kernel, by decide +kernel⟩
abbrev s__law_top : Stmt := topS 36
theorem sc__law_top : FnScope ["lot", "many", "items", "item"] ["lot", "many"] (defScope s__law_top) := ⟨rfl, rfl, rfl, by decide +kernel, rfl, by decide +kernel, by decide +kernel⟩
abbrev s_lot_of : Stmt := topS 7
theorem sc_lot_of : FnScope ["items", "lot", "item"] ["items"] (defScope s_lot_of) := ⟨rfl, rfl, rfl, by decide +kernel, rfl, by decide +kernel, by decide +kernel⟩
abbrev s_greatest_items : Stmt := topS 14
theorem sc_greatest_items : FnScope ["lot", "many", "listed"] ["lot", "many"] (defScope s_greatest_items) := ⟨rfl, rfl, rfl, by decide +kernel, rfl, by decide +kernel, by decide +kernel⟩
abbrev s_joined_codes : Stmt := topS 21
theorem sc_joined_codes : FnScope ["width", "many", "one", "two", "first", "second"] ["width", "many", "one", "two"] (defScope s_joined_codes) := ⟨rfl, rfl, rfl, by decide +kernel, rfl, by decide +kernel, by decide +kernel⟩
abbrev s__law_triangle : Stmt := topS 31
theorem sc__law_triangle : FnScope ["rows", "many", "above", "some"] [] (defScope s__law_triangle) := ⟨rfl, rfl, rfl, by decide +kernel, rfl, by decide +kernel, by decide +kernel⟩
abbrev s__law_drawn_state : Stmt := topS 35
theorem sc__law_drawn_state : FnScope ["cell", "width", "many", "row", "lot", "k"] ["cell", "width", "many"] (defScope s__law_drawn_state) := ⟨rfl, rfl, rfl, by decide +kernel, rfl, by decide +kernel, by decide +kernel⟩
abbrev s__law_whole : Stmt := topS 25
theorem sc__law_whole : FnScope ["value"] ["value"] (defScope s__law_whole) := ⟨rfl, rfl, rfl, by decide +kernel, rfl, by decide +kernel, by decide +kernel⟩
abbrev s__law_code : Stmt := topS 32
theorem sc__law_code : FnScope ["rows", "width", "lot", "items", "line", "told", "at", "some"] ["rows", "width", "lot"] (defScope s__law_code) := ⟨rfl, rfl, rfl, by decide +kernel, rfl, by decide +kernel, by decide +kernel⟩
abbrev s__law_next : Stmt := topS 34
theorem sc__law_next : FnScope ["width", "lot", "items", "at", "item"] ["width", "lot"] (defScope s__law_next) := ⟨rfl, rfl, rfl, by decide +kernel, rfl, by decide +kernel, by decide +kernel⟩
abbrev s_bits : Stmt := topS 22
theorem sc_bits : FnScope ["count", "told", "reach"] ["count"] (defScope s_bits) := ⟨rfl, rfl, rfl, by decide +kernel, rfl, by decide +kernel, by decide +kernel⟩
abbrev s__law_bits_right : Stmt := topS 37
theorem sc__law_bits_right : FnScope ["number", "told"] ["number"] (defScope s__law_bits_right) := ⟨rfl, rfl, rfl, by decide +kernel, rfl, by decide +kernel, by decide +kernel⟩
abbrev s__law_refused : Stmt := topS 33
theorem sc__law_refused : FnScope ["way", "width", "many", "value", "error"] ["way", "width", "many", "value"] (defScope s__law_refused) := ⟨rfl, rfl, rfl, by decide +kernel, rfl, by decide +kernel, by decide +kernel⟩
abbrev s_law : Stmt := topS 38
theorem sc_law : FnScope ["script", "shape", "small", "few", "listed", "at", "width", "many", "rows", "line", "count", "states", "codes", "lot", "drawn", "given", "k", "number", "wrong", "two", "due", "code", "after", "told", "some", "way"] ["script"] (defScope s_law) := ⟨rfl, rfl, rfl, by decide +kernel, rfl, by decide +kernel, by decide +kernel⟩
abbrev s_init_NoSuchNumber : Stmt := inClass (topS 4) 0
theorem sc_init_NoSuchNumber : FnScope ["self", "number"] ["self", "number"] (defScope s_init_NoSuchNumber) := ⟨rfl, rfl, rfl, by decide +kernel, rfl, by decide +kernel, by decide +kernel⟩
abbrev s_init_BadLot : Stmt := inClass (topS 3) 0
theorem sc_init_BadLot : FnScope ["self", "lot"] ["self", "lot"] (defScope s_init_BadLot) := ⟨rfl, rfl, rfl, by decide +kernel, rfl, by decide +kernel, by decide +kernel⟩
/-! errors -/
def attrs_err : List Str := ["lot", "number"]
def sub_err (C : Str) : Option Bool := if C = "NoSuchNumber" then some true else if C = "BadLot" then some true else none
def isa_BadLot (C : Str) : Option Bool := if C = "NoSuchNumber" then some false else if C = "BadLot" then some true else none
def isa_NoSuchNumber (C : Str) : Option Bool := if C = "NoSuchNumber" then some true else if C = "BadLot" then some false else none
/-- what the text's top leaves of the names -/
structure Tp (K : PySem.W.Frag) (mg : Str → Option Value) (A_BoardError A_BadLot A_NoSuchNumber : Addr) : Prop where
  m_all : mg "all" = none
  m_bool : mg "bool" = none
  m_int : mg "int" = none
  m_isinstance : mg "isinstance" = none
  m_len : mg "len" = none
  m_list : mg "list" = none
  m_max : mg "max" = none
  m_range : mg "range" = none
  m_str : mg "str" = none
  m_sum : mg "sum" = none
  m_tuple : mg "tuple" = none
  c_BoardError : mg "BoardError" = some (.ref A_BoardError)
  c_BadLot : mg "BadLot" = some (.ref A_BadLot)
  k_BadLot : ∀ C CA b, isa_BadLot C = some b → mg C = some (.ref CA) → PySem.W.kitOne K (.ref CA) (.ref A_BadLot) = some b
  c_NoSuchNumber : mg "NoSuchNumber" = some (.ref A_NoSuchNumber)
  k_NoSuchNumber : ∀ C CA b, isa_NoSuchNumber C = some b → mg C = some (.ref CA) → PySem.W.kitOne K (.ref CA) (.ref A_NoSuchNumber) = some b
  cls : ∀ C CA b, sub_err C = some b → mg C = some (.ref CA) → ClsE K attrs_err CA ∧ PySem.W.exmOne K (.ref CA) (.ref A_BoardError) = some b
section
variable {P : Program} {w : World} {K : PySem.W.Frag} {mg : Str → Option Value} {base : Heap} {A_BoardError A_BadLot A_NoSuchNumber : Addr}
noncomputable def B__law_cell : PEnv → Out := (sSeq (sIf (tT (eOp ltD (eV 1) (eX lenD (xV 0))))
  (sRet (eB intD (eCons (eOp ixD (xV 0) (eV 1)) eNil)))
  sNext)
  (sSeq (sSet 2 (eC (.int 17)))
  (sSeq (sFor (iSq (eV 0)) (gN 3)
  (sSet 2 (eOp modD (eB intD (eCons (eOp addD (eOp mulD (eV 2) (eC (.int 31))) (eOp modD (eB intD (eCons (eV 3) eNil)) (eC (.int 1000003)))) eNil)) (eC (.int 1000003)))))
  (sRet (eOp modD (eB intD (eCons (eOp mulD (eOp mulD (eOp addD (eV 2) (eC (.int 7))) (eOp addD (eV 1) (eC (.int 3)))) (eC (.int 69621))) eNil)) (eC (.int 2147483647)))))))
noncomputable def F__law_cell : List D → Rs D := runF 4 B__law_cell
theorem ok__law_cell {f : Addr} {fd : FuncData} (F : Fun K "_law_cell" "_law_cell" s__law_cell f fd) (bd : Binds K fd ["script", "k"] []) (hm : mg "_law_cell" = some (.ref f)) (T : Tp K mg A_BoardError A_BadLot A_NoSuchNumber) : FnP P w K mg base 1 "_law_cell" 2 F__law_cell :=
  fn_def (N := ["script", "k", "seed", "cell"]) (ps := ["script", "k"]) F sc__law_cell bd hm fun cdv A outer s H E hr => ⟨_, (ess_cons (es_if (et_cmp o_lt (ee_var 1 (pv 1)) (ee_Bx b_len rfl T.m_len bt_len (ex_var 0 (pv 0))) (nomark _))
  (ess_one (es_ret (EE.x (ee_Ty b_int rfl T.m_int bt_int (ea_cons (ee_ix (ex_var 0 (pv 0)) (ee_var 1 (pv 1)) (fun _ _ => rfl)) ea_nil)))))
  ess_nil)
  (ess_cons (es_set (i := 2) sc__law_cell.nd rfl (by first | exact Or.inl rfl | exact Or.inr rfl) ee_int)
  (ess_cons (es_for rfl (ei_seq (ee_var 0 (pv 0))) (eg_name (i := 3) sc__law_cell.nd rfl (by first | exact Or.inl rfl | exact Or.inr rfl))
  (ess_one (es_set (i := 2) sc__law_cell.nd rfl (by first | exact Or.inl rfl | exact Or.inr rfl) (ee_op o_mod (ee_Ty b_int rfl T.m_int bt_int (ea_cons (ee_op o_add (ee_op o_mul (ee_var 2 (pv 2)) ee_int) (ee_op o_mod (ee_Ty b_int rfl T.m_int bt_int (ea_cons (ee_var 3 (pv 3)) ea_nil)) ee_int)) ea_nil)) ee_int))))
  (ess_one (es_ret (EE.x (ee_op o_mod (ee_Ty b_int rfl T.m_int bt_int (ea_cons (ee_op o_mul (ee_op o_mul (ee_op o_add (ee_var 2 (pv 2)) ee_int) (ee_op o_add (ee_var 1 (pv 1)) ee_int)) ee_int) ea_nil)) ee_int)))))))⟩
noncomputable def B__law_digits : PEnv → Out := (sSeq (sSetN 2 (eLst eNil))
  (sSeq (sSet 3 (eB intD (eCons (eV 0) eNil)))
  (sSeq (sIf (tT (eOp geD (eV 3) (eOp powD (eC (.int 10)) (eC (.int 18)))))
  (sSeq (sSet 3 (eOp subD (eV 3) (eOp powD (eC (.int 10)) (eC (.int 18)))))
  (sSeq (sFor (iSq (eV 1)) (gN 6)
  (sSeq (sApp 2 (eOp modD (eB intD (eCons (eV 3) eNil)) (eV 6)))
  (sSet 3 (eOp fdivD (eB intD (eCons (eV 3) eNil)) (eV 6)))))
  (sRet (xV 2))))
  sNext)
  (sSeq (sSet 4 (eOp modD (eB intD (eCons (eV 3) eNil)) (eC (.int 2147483629))))
  (sSeq (sFor (iR1 (eCons (eX lenD (xV 1)) eNil)) (gN 5)
  (sSeq (sSet 4 (eOp modD (eB intD (eCons (eOp addD (eOp addD (eOp mulD (eV 4) (eC (.int 48271))) (eOp mulD (eC (.int 974711)) (eV 5))) (eC (.int 12345))) eNil)) (eC (.int 2147483647))))
  (sSeq (sSet 7 (eOp modD (eB intD (eCons (eOp mulD (eV 4) (eOp addD (eOp fdivD (eV 4) (eC (.int 65537))) (eC (.int 3)))) eNil)) (eC (.int 2147483629))))
  (sApp 2 (eOp modD (eOp fdivD (eV 7) (eC (.int 19))) (eOp ixD (xV 1) (eV 5)))))))
  (sRet (xV 2)))))))
noncomputable def F__law_digits : List D → Rs D := runF 8 B__law_digits
theorem ok__law_digits {f : Addr} {fd : FuncData} (F : Fun K "_law_digits" "_law_digits" s__law_digits f fd) (bd : Binds K fd ["cell", "sizes"] []) (hm : mg "_law_digits" = some (.ref f)) (T : Tp K mg A_BoardError A_BadLot A_NoSuchNumber) : FnP P w K mg base 1 "_law_digits" 2 F__law_digits :=
  fn_def (N := ["cell", "sizes", "row", "rest", "seed", "k", "limit", "twice"]) (ps := ["cell", "sizes"]) F sc__law_digits bd hm fun cdv A outer s H E hr => ⟨_, (ess_cons (es_setN (i := 2) sc__law_digits.nd rfl (by first | exact Or.inl rfl | exact Or.inr rfl) (en_lst ea_nil))
  (ess_cons (es_set (i := 3) sc__law_digits.nd rfl (by first | exact Or.inl rfl | exact Or.inr rfl) (ee_Ty b_int rfl T.m_int bt_int (ea_cons (ee_var 0 (pv 0)) ea_nil)))
  (ess_cons (es_if (et_cmp o_ge (ee_var 3 (pv 3)) (ee_op o_pow ee_int ee_int) (nomark _))
  (ess_cons (es_set (i := 3) sc__law_digits.nd rfl (by first | exact Or.inl rfl | exact Or.inr rfl) (ee_op o_sub (ee_var 3 (pv 3)) (ee_op o_pow ee_int ee_int)))
  (ess_cons (es_for rfl (ei_seq (ee_var 1 (pv 1))) (eg_name (i := 6) sc__law_digits.nd rfl (by first | exact Or.inl rfl | exact Or.inr rfl))
  (ess_cons (es_appN (i := 2) (pv 2) (ee_op o_mod (ee_Ty b_int rfl T.m_int bt_int (ea_cons (ee_var 3 (pv 3)) ea_nil)) (ee_var 6 (pv 6))))
  (ess_one (es_set (i := 3) sc__law_digits.nd rfl (by first | exact Or.inl rfl | exact Or.inr rfl) (ee_op o_fdiv (ee_Ty b_int rfl T.m_int bt_int (ea_cons (ee_var 3 (pv 3)) ea_nil)) (ee_var 6 (pv 6)))))))
  (ess_one (es_ret (ex_var 2 (pv 2))))))
  ess_nil)
  (ess_cons (es_set (i := 4) sc__law_digits.nd rfl (by first | exact Or.inl rfl | exact Or.inr rfl) (ee_op o_mod (ee_Ty b_int rfl T.m_int bt_int (ea_cons (ee_var 3 (pv 3)) ea_nil)) ee_int))
  (ess_cons (es_for rfl (ei_r1 rfl T.m_range (ea_cons (ee_Bx b_len rfl T.m_len bt_len (ex_var 1 (pv 1))) ea_nil)) (eg_name (i := 5) sc__law_digits.nd rfl (by first | exact Or.inl rfl | exact Or.inr rfl))
  (ess_cons (es_set (i := 4) sc__law_digits.nd rfl (by first | exact Or.inl rfl | exact Or.inr rfl) (ee_op o_mod (ee_Ty b_int rfl T.m_int bt_int (ea_cons (ee_op o_add (ee_op o_add (ee_op o_mul (ee_var 4 (pv 4)) ee_int) (ee_op o_mul ee_int (ee_var 5 (pv 5)))) ee_int) ea_nil)) ee_int))
  (ess_cons (es_set (i := 7) sc__law_digits.nd rfl (by first | exact Or.inl rfl | exact Or.inr rfl) (ee_op o_mod (ee_Ty b_int rfl T.m_int bt_int (ea_cons (ee_op o_mul (ee_var 4 (pv 4)) (ee_op o_add (ee_op o_fdiv (ee_var 4 (pv 4)) ee_int) ee_int)) ea_nil)) ee_int))
  (ess_one (es_appN (i := 2) (pv 2) (ee_op o_mod (ee_op o_fdiv (ee_var 7 (pv 7)) ee_int) (ee_ix (ex_var 1 (pv 1)) (ee_var 5 (pv 5)) (fun _ _ => rfl))))))))
  (ess_one (es_ret (ex_var 2 (pv 2)))))))))⟩
noncomputable def B__law_items : PEnv → Out := (sRet (nl (cLc [1] (iR1 (eCons (eC (.int 40)) eNil)) (gN 1) (tT (eOp eqDD (eOp andD (eOp shrD (eB intD (eCons (eV 0) eNil)) (eV 1)) (eC (.int 1))) (eC (.int 1)))) (eV 1))))
noncomputable def F__law_items : List D → Rs D := runF 2 B__law_items
theorem ok__law_items {f : Addr} {fd : FuncData} (F : Fun K "_law_items" "_law_items" s__law_items f fd) (bd : Binds K fd ["lot"] []) (hm : mg "_law_items" = some (.ref f)) (T : Tp K mg A_BoardError A_BadLot A_NoSuchNumber) : FnP P w K mg base 1 "_law_items" 1 F__law_items :=
  fn_def (N := ["lot", "k"]) (ps := ["lot"]) F sc__law_items bd hm fun cdv A outer s H E hr => ⟨_, (ess_one (es_ret (EE.x (EN.ee (en_lc (own := [("k", 1)]) rfl sc__law_items.nd (ei_r1 rfl T.m_range (ea_cons ee_int ea_nil)) (blkOk_by (N := ["lot", "k"]) (sc := defScope s__law_items) (by decide +kernel)) ⟨fun _ _ _ _ _ => ⟨_, (egc_name (i := 1) sc__law_items.nd rfl (by first | exact Or.inl rfl | exact Or.inr rfl) (by decide))⟩, fun _ _ _ _ _ => ⟨_, (ets_one (et_cmp (o_eq hr.units) (ee_op o_and (ee_op o_shr (ee_Ty b_int rfl T.m_int bt_int (ea_cons (ee_var 0 (pv 0)) ea_nil)) (ee_var 1 (pv 1))) ee_int) ee_int (nomark _)))⟩, fun _ _ _ _ _ => ⟨_, (ee_var 1 (pv 1))⟩⟩)))))⟩
noncomputable def B__law_count : PEnv → Out := (sRet (eX lenD (eFn 1 F__law_items (eCons (eV 0) eNil))))
noncomputable def F__law_count : List D → Rs D := runF 1 B__law_count
theorem ok__law_count {f : Addr} {fd : FuncData} (F : Fun K "_law_count" "_law_count" s__law_count f fd) (bd : Binds K fd ["lot"] []) (hm : mg "_law_count" = some (.ref f)) (T : Tp K mg A_BoardError A_BadLot A_NoSuchNumber) (G__law_items : FnP P w K mg base 1 "_law_items" 1 F__law_items) : FnP P w K mg base 2 "_law_count" 1 F__law_count :=
  fn_def (N := ["lot"]) (ps := ["lot"]) F sc__law_count bd hm fun cdv A outer s H E hr => ⟨_, (ess_one (es_ret (EE.x (ee_Bx b_len rfl T.m_len bt_len (EE.x (ee_call G__law_items (hr.mono (by decide)) rfl (ea_cons (ee_var 0 (pv 0)) ea_nil)))))))⟩
noncomputable def B__law_size_order : PEnv → Out := (sSeq (sSet 1 (eOp shlD (eC (.int 1)) (eV 0)))
  (sSeq (sSet 2 (nl (eLst eNil)))
  (sSeq (sFor (iR1 (eCons (eOp addD (eV 0) (eC (.int 1))) eNil)) (gN 3)
  (sSet 2 (eOp addD (eV 2) (nl (cLc [4] (iR1 (eCons (eV 1) eNil)) (gN 4) (tT (eOp eqDD (eFn 1 F__law_count (eCons (eV 4) eNil)) (eV 3))) (eV 4))))))
  (sRet (xV 2)))))
noncomputable def F__law_size_order : List D → Rs D := runF 5 B__law_size_order
theorem ok__law_size_order {f : Addr} {fd : FuncData} (F : Fun K "_law_size_order" "_law_size_order" s__law_size_order f fd) (bd : Binds K fd ["width"] []) (hm : mg "_law_size_order" = some (.ref f)) (T : Tp K mg A_BoardError A_BadLot A_NoSuchNumber) (G__law_count : FnP P w K mg base 2 "_law_count" 1 F__law_count) : FnP P w K mg base 3 "_law_size_order" 1 F__law_size_order :=
  fn_def (N := ["width", "many", "order", "count", "lot"]) (ps := ["width"]) F sc__law_size_order bd hm fun cdv A outer s H E hr => ⟨_, (ess_cons (es_set (i := 1) sc__law_size_order.nd rfl (by first | exact Or.inl rfl | exact Or.inr rfl) (ee_op o_shl ee_int (ee_var 0 (pv 0))))
  (ess_cons (es_set (i := 2) sc__law_size_order.nd rfl (by first | exact Or.inl rfl | exact Or.inr rfl) (EN.ee (en_lst ea_nil)))
  (ess_cons (es_for rfl (ei_r1 rfl T.m_range (ea_cons (ee_op o_add (ee_var 0 (pv 0)) ee_int) ea_nil)) (eg_name (i := 3) sc__law_size_order.nd rfl (by first | exact Or.inl rfl | exact Or.inr rfl))
  (ess_one (es_set (i := 2) sc__law_size_order.nd rfl (by first | exact Or.inl rfl | exact Or.inr rfl) (ee_op o_add (ee_var 2 (pv 2)) (EN.ee (en_lc (own := [("lot", 4)]) rfl sc__law_size_order.nd (ei_r1 rfl T.m_range (ea_cons (ee_var 1 (pv 1)) ea_nil)) (blkOk_by (N := ["width", "many", "order", "count", "lot"]) (sc := defScope s__law_size_order) (by decide +kernel)) ⟨fun _ _ _ _ _ => ⟨_, (egc_name (i := 4) sc__law_size_order.nd rfl (by first | exact Or.inl rfl | exact Or.inr rfl) (by decide))⟩, fun _ _ _ _ _ => ⟨_, (ets_one (et_cmp (o_eq hr.units) (ee_call G__law_count (hr.mono (by decide)) rfl (ea_cons (ee_var 4 (pv 4)) ea_nil)) (ee_var 3 (pv 3)) (nomark _)))⟩, fun _ _ _ _ _ => ⟨_, (ee_var 4 (pv 4))⟩⟩))))))
  (ess_one (es_ret (ex_var 2 (pv 2)))))))⟩
noncomputable def B_choose : PEnv → Out := (sSeq (sSet 2 (eC (.int 1)))
  (sSeq (sFor (iR1 (eCons (eV 1) eNil)) (gN 3)
  (sSet 2 (eOp fdivD (eOp mulD (eV 2) (eOp subD (eV 0) (eV 3))) (eOp addD (eV 3) (eC (.int 1))))))
  (sRet (xV 2))))
noncomputable def F_choose : List D → Rs D := runF 4 B_choose
theorem ok_choose {f : Addr} {fd : FuncData} (F : Fun K "choose" "choose" s_choose f fd) (bd : Binds K fd ["many", "some"] []) (hm : mg "choose" = some (.ref f)) (T : Tp K mg A_BoardError A_BadLot A_NoSuchNumber) : FnP P w K mg base 1 "choose" 2 F_choose :=
  fn_def (N := ["many", "some", "ways", "at"]) (ps := ["many", "some"]) F sc_choose bd hm fun cdv A outer s H E hr => ⟨_, (ess_cons (es_set (i := 2) sc_choose.nd rfl (by first | exact Or.inl rfl | exact Or.inr rfl) ee_int)
  (ess_cons (es_for rfl (ei_r1 rfl T.m_range (ea_cons (ee_var 1 (pv 1)) ea_nil)) (eg_name (i := 3) sc_choose.nd rfl (by first | exact Or.inl rfl | exact Or.inr rfl))
  (ess_one (es_set (i := 2) sc_choose.nd rfl (by first | exact Or.inl rfl | exact Or.inr rfl) (ee_op o_fdiv (ee_op o_mul (ee_var 2 (pv 2)) (ee_op o_sub (ee_var 0 (pv 0)) (ee_var 3 (pv 3)))) (ee_op o_add (ee_var 3 (pv 3)) ee_int)))))
  (ess_one (es_ret (ex_var 2 (pv 2))))))⟩
noncomputable def B_top_states : PEnv → Out := (sRet (eX sumD (nl (cLc [2] (iR1 (eCons (eOp addD (eV 1) (eC (.int 1))) eNil)) (gN 2) (fun _ => .ok true) (eFn 2 F_choose (eCons (eV 0) (eCons (eV 2) eNil)))))))
noncomputable def F_top_states : List D → Rs D := runF 3 B_top_states
theorem ok_top_states {f : Addr} {fd : FuncData} (F : Fun K "top_states" "top_states" s_top_states f fd) (bd : Binds K fd ["width", "many"] []) (hm : mg "top_states" = some (.ref f)) (T : Tp K mg A_BoardError A_BadLot A_NoSuchNumber) (G_choose : FnP P w K mg base 1 "choose" 2 F_choose) : FnP P w K mg base 2 "top_states" 2 F_top_states :=
  fn_def (N := ["width", "many", "some"]) (ps := ["width", "many"]) F sc_top_states bd hm fun cdv A outer s H E hr => ⟨_, (ess_one (es_ret (EE.x (ee_Bx (b_sum rfl) rfl T.m_sum bt_sum (EE.x (EN.ee (en_lc (own := [("some", 2)]) rfl sc_top_states.nd (ei_r1 rfl T.m_range (ea_cons (ee_op o_add (ee_var 1 (pv 1)) ee_int) ea_nil)) (blkOk_by (N := ["width", "many", "some"]) (sc := defScope s_top_states) (by decide +kernel)) ⟨fun _ _ _ _ _ => ⟨_, (egc_name (i := 2) sc_top_states.nd rfl (by first | exact Or.inl rfl | exact Or.inr rfl) (by decide))⟩, fun _ _ _ _ _ => ⟨_, ets_nil⟩, fun _ _ _ _ _ => ⟨_, (ee_call G_choose (hr.mono (by decide)) rfl (ea_cons (ee_var 0 (pv 0)) (ea_cons (ee_var 2 (pv 2)) ea_nil)))⟩⟩)))))))⟩
noncomputable def B__law_alike : PEnv → Out := (sSeq (sSetN 2 (eLst (eCons (eTup (eCons (eV 0) (eCons (eV 1) eNil))) eNil)))
  (sSeq (sFor (iR1 (eCons (eC (.int 400000)) eNil)) (gN 3)
  (sSeq (sIf (tT (eOp geD (eV 3) (eX lenD (xV 2))))
  (sRet (eC (.bl true)))
  sNext)
  (sSeq (sSet 4 (eOp ixD (eOp ixD (xV 2) (eV 3)) (eC (.int 0))))
  (sSeq (sSet 5 (eOp ixD (eOp ixD (xV 2) (eV 3)) (eC (.int 1))))
  (sIf (tT (eX (isiD ["tuple", "list"]) (xV 5)))
  (sSeq (sIf (eOr (eNot (tT (eX (isiD ["tuple", "list"]) (xV 4)))) (eOr (tT (eOp neDD (eX (isiD ["tuple"]) (xV 4)) (eX (isiD ["tuple"]) (xV 5)))) (tT (eOp neDD (eX lenD (xV 4)) (eX lenD (xV 5))))))
  (sRet (eC (.bl false)))
  sNext)
  (sFor (iR1 (eCons (eX lenD (xV 5)) eNil)) (gN 6)
  (sApp 2 (eTup (eCons (eOp ixD (xV 4) (eV 6)) (eCons (eOp ixD (xV 5) (eV 6)) eNil))))))
  (sIf (tT (eOp isN (eV 5) (eC .non)))
  (sIf (tT (eOp notN (eV 4) (eC .non)))
  (sRet (eC (.bl false)))
  sNext)
  (sIf (tT (eX (isiD ["str"]) (xV 5)))
  (sIf (eOr (eNot (tT (eX (isiD ["str"]) (xV 4)))) (tT (eOp neDD (eV 4) (eV 5))))
  (sRet (eC (.bl false)))
  sNext)
  (sIf (eOr (eNot (tT (eX (isiD ["int"]) (xV 4)))) (eOr (tT (eOp neDD (eX (isiD ["bool"]) (xV 4)) (eX (isiD ["bool"]) (xV 5)))) (tT (eOp neDD (eV 4) (eV 5)))))
  (sRet (eC (.bl false)))
  sNext))))))))
  (sRet (eC (.bl false)))))
noncomputable def F__law_alike : List D → Rs D := runF 7 B__law_alike
theorem ok__law_alike {f : Addr} {fd : FuncData} (F : Fun K "_law_alike" "_law_alike" s__law_alike f fd) (bd : Binds K fd ["told", "due"] []) (hm : mg "_law_alike" = some (.ref f)) (T : Tp K mg A_BoardError A_BadLot A_NoSuchNumber) : FnP P w K mg base 1 "_law_alike" 2 F__law_alike :=
  fn_def (N := ["told", "due", "pairs", "k", "one", "two", "at"]) (ps := ["told", "due"]) F sc__law_alike bd hm fun cdv A outer s H E hr => ⟨_, (ess_cons (es_setN (i := 2) sc__law_alike.nd rfl (by first | exact Or.inl rfl | exact Or.inr rfl) (en_lst (ea_cons (ee_tup (ea_cons (ee_var 0 (pv 0)) (ea_cons (ee_var 1 (pv 1)) ea_nil))) ea_nil)))
  (ess_cons (es_for rfl (ei_r1 rfl T.m_range (ea_cons ee_int ea_nil)) (eg_name (i := 3) sc__law_alike.nd rfl (by first | exact Or.inl rfl | exact Or.inr rfl))
  (ess_cons (es_if (et_cmp o_ge (ee_var 3 (pv 3)) (ee_Bx b_len rfl T.m_len bt_len (ex_var 2 (pv 2))) (nomark _))
  (ess_one (es_ret (EE.x ee_bl)))
  ess_nil)
  (ess_cons (es_set (i := 4) sc__law_alike.nd rfl (by first | exact Or.inl rfl | exact Or.inr rfl) (ee_ix (EE.x (ee_ix (ex_var 2 (pv 2)) (ee_var 3 (pv 3)) (fun _ _ => rfl))) ee_int (fun _ _ => rfl)))
  (ess_cons (es_set (i := 5) sc__law_alike.nd rfl (by first | exact Or.inl rfl | exact Or.inr rfl) (ee_ix (EE.x (ee_ix (ex_var 2 (pv 2)) (ee_var 3 (pv 3)) (fun _ _ => rfl))) ee_int (fun _ _ => rfl)))
  (ess_one (es_if (et_val (ee_isi2 rfl T.m_isinstance rfl T.m_tuple bt_tuple rfl T.m_list bt_list (.inr (.inr (.inr (.inr rfl)))) (.inr (.inr (.inr (.inl rfl)))) (ex_var 5 (pv 5))))
  (ess_cons (es_if (EW.tt (ew_or (et_not (et_val (ee_isi2 rfl T.m_isinstance rfl T.m_tuple bt_tuple rfl T.m_list bt_list (.inr (.inr (.inr (.inr rfl)))) (.inr (.inr (.inr (.inl rfl)))) (ex_var 4 (pv 4))))) (ew_or (et_cmp (o_ne hr.units) (ee_isi rfl T.m_isinstance rfl T.m_tuple bt_tuple (.inr (.inr (.inr (.inr rfl)))) (ex_var 4 (pv 4))) (ee_isi rfl T.m_isinstance rfl T.m_tuple bt_tuple (.inr (.inr (.inr (.inr rfl)))) (ex_var 5 (pv 5))) (nomark _)) (ew_or1 (et_cmp (o_ne hr.units) (ee_Bx b_len rfl T.m_len bt_len (ex_var 4 (pv 4))) (ee_Bx b_len rfl T.m_len bt_len (ex_var 5 (pv 5))) (nomark _))))))
  (ess_one (es_ret (EE.x ee_bl)))
  ess_nil)
  (ess_one (es_for rfl (ei_r1 rfl T.m_range (ea_cons (ee_Bx b_len rfl T.m_len bt_len (ex_var 5 (pv 5))) ea_nil)) (eg_name (i := 6) sc__law_alike.nd rfl (by first | exact Or.inl rfl | exact Or.inr rfl))
  (ess_one (es_appN (i := 2) (pv 2) (ee_tup (ea_cons (ee_ix (ex_var 4 (pv 4)) (ee_var 6 (pv 6)) (fun _ _ => rfl)) (ea_cons (ee_ix (ex_var 5 (pv 5)) (ee_var 6 (pv 6)) (fun _ _ => rfl)) ea_nil))))))))
  (ess_one (es_if (et_cmp o_is (ee_var 5 (pv 5)) ee_non (nomark _))
  (ess_one (es_if (et_cmp o_isnot (ee_var 4 (pv 4)) ee_non (nomark _))
  (ess_one (es_ret (EE.x ee_bl)))
  ess_nil))
  (ess_one (es_if (et_val (ee_isi rfl T.m_isinstance rfl T.m_str bt_str (.inr (.inr (.inl rfl))) (ex_var 5 (pv 5))))
  (ess_one (es_if (EW.tt (ew_or (et_not (et_val (ee_isi rfl T.m_isinstance rfl T.m_str bt_str (.inr (.inr (.inl rfl))) (ex_var 4 (pv 4))))) (ew_or1 (et_cmp (o_ne hr.units) (ee_var 4 (pv 4)) (ee_var 5 (pv 5)) (nomark _)))))
  (ess_one (es_ret (EE.x ee_bl)))
  ess_nil))
  (ess_one (es_if (EW.tt (ew_or (et_not (et_val (ee_isi rfl T.m_isinstance rfl T.m_int bt_int (.inl rfl) (ex_var 4 (pv 4))))) (ew_or (et_cmp (o_ne hr.units) (ee_isi rfl T.m_isinstance rfl T.m_bool bt_bool (.inr (.inl rfl)) (ex_var 4 (pv 4))) (ee_isi rfl T.m_isinstance rfl T.m_bool bt_bool (.inr (.inl rfl)) (ex_var 5 (pv 5))) (nomark _)) (ew_or1 (et_cmp (o_ne hr.units) (ee_var 4 (pv 4)) (ee_var 5 (pv 5)) (nomark _))))))
  (ess_one (es_ret (EE.x ee_bl)))
  ess_nil))))))))))))
  (ess_one (es_ret (EE.x ee_bl)))))⟩
theorem hk__law_alike {f : Addr} {fd : FuncData} (F : Fun K "_law_alike" "_law_alike" s__law_alike f fd) (bd : Binds K fd ["told", "due"] []) (hm : mg "_law_alike" = some (.ref f)) (T : Tp K mg A_BoardError A_BadLot A_NoSuchNumber) : FnHP P w K mg base 1 "_law_alike" 2 F__law_alike :=
  fn_defH (N := ["told", "due", "pairs", "k", "one", "two", "at"]) (ps := ["told", "due"]) F sc__law_alike bd hm fun cdv A outer s H E p hot1 hr => have hot : L2H.HotC (L2H.cxH (L2N.CX P w) P w K mg base ["told", "due", "pairs", "k", "one", "two", "at"] "_law_alike" (defScope s__law_alike) f cdv A outer s H E p) := ⟨p, hot1, List.mem_cons_self⟩; ⟨_, (ess_cons (es_setN (i := 2) sc__law_alike.nd rfl (by first | exact Or.inl rfl | exact Or.inr rfl) (en_lst (ea_cons (ee_tup (ea_cons (ee_var 0 (pv 0)) (ea_cons (ee_var 1 (pv 1)) ea_nil))) ea_nil)))
  (ess_cons (es_forH hot (ei_r1H rfl T.m_range (ea_cons ee_int ea_nil)) (eg_name (i := 3) sc__law_alike.nd rfl (by first | exact Or.inl rfl | exact Or.inr rfl))
  (ess_cons (es_if (et_cmp o_ge (ee_var 3 (pv 3)) (ee_Bx b_len rfl T.m_len bt_len (ex_var 2 (pv 2))) (nomark _))
  (ess_one (es_ret (EE.x ee_bl)))
  ess_nil)
  (ess_cons (es_set (i := 4) sc__law_alike.nd rfl (by first | exact Or.inl rfl | exact Or.inr rfl) (ee_ix (EE.x (ee_ix (ex_var 2 (pv 2)) (ee_var 3 (pv 3)) (fun _ _ => rfl))) ee_int (fun _ _ => rfl)))
  (ess_cons (es_set (i := 5) sc__law_alike.nd rfl (by first | exact Or.inl rfl | exact Or.inr rfl) (ee_ix (EE.x (ee_ix (ex_var 2 (pv 2)) (ee_var 3 (pv 3)) (fun _ _ => rfl))) ee_int (fun _ _ => rfl)))
  (ess_one (es_if (et_val (ee_isi2 rfl T.m_isinstance rfl T.m_tuple bt_tuple rfl T.m_list bt_list (.inr (.inr (.inr (.inr rfl)))) (.inr (.inr (.inr (.inl rfl)))) (ex_var 5 (pv 5))))
  (ess_cons (es_if (EW.tt (ew_or (et_not (et_val (ee_isi2 rfl T.m_isinstance rfl T.m_tuple bt_tuple rfl T.m_list bt_list (.inr (.inr (.inr (.inr rfl)))) (.inr (.inr (.inr (.inl rfl)))) (ex_var 4 (pv 4))))) (ew_or (et_cmp (o_ne (hu_h hr)) (ee_isi rfl T.m_isinstance rfl T.m_tuple bt_tuple (.inr (.inr (.inr (.inr rfl)))) (ex_var 4 (pv 4))) (ee_isi rfl T.m_isinstance rfl T.m_tuple bt_tuple (.inr (.inr (.inr (.inr rfl)))) (ex_var 5 (pv 5))) (nomark _)) (ew_or1 (et_cmp (o_ne (hu_h hr)) (ee_Bx b_len rfl T.m_len bt_len (ex_var 4 (pv 4))) (ee_Bx b_len rfl T.m_len bt_len (ex_var 5 (pv 5))) (nomark _))))))
  (ess_one (es_ret (EE.x ee_bl)))
  ess_nil)
  (ess_one (es_forH hot (ei_r1H rfl T.m_range (ea_cons (ee_Bx b_len rfl T.m_len bt_len (ex_var 5 (pv 5))) ea_nil)) (eg_name (i := 6) sc__law_alike.nd rfl (by first | exact Or.inl rfl | exact Or.inr rfl))
  (ess_one (es_appN (i := 2) (pv 2) (ee_tup (ea_cons (ee_ix (ex_var 4 (pv 4)) (ee_var 6 (pv 6)) (fun _ _ => rfl)) (ea_cons (ee_ix (ex_var 5 (pv 5)) (ee_var 6 (pv 6)) (fun _ _ => rfl)) ea_nil))))))))
  (ess_one (es_if (et_cmp o_is (ee_var 5 (pv 5)) ee_non (nomark _))
  (ess_one (es_if (et_cmp o_isnot (ee_var 4 (pv 4)) ee_non (nomark _))
  (ess_one (es_ret (EE.x ee_bl)))
  ess_nil))
  (ess_one (es_if (et_val (ee_isi rfl T.m_isinstance rfl T.m_str bt_str (.inr (.inr (.inl rfl))) (ex_var 5 (pv 5))))
  (ess_one (es_if (EW.tt (ew_or (et_not (et_val (ee_isi rfl T.m_isinstance rfl T.m_str bt_str (.inr (.inr (.inl rfl))) (ex_var 4 (pv 4))))) (ew_or1 (et_cmp (o_ne (hu_h hr)) (ee_var 4 (pv 4)) (ee_var 5 (pv 5)) (nomark _)))))
  (ess_one (es_ret (EE.x ee_bl)))
  ess_nil))
  (ess_one (es_if (EW.tt (ew_or (et_not (et_val (ee_isi rfl T.m_isinstance rfl T.m_int bt_int (.inl rfl) (ex_var 4 (pv 4))))) (ew_or (et_cmp (o_ne (hu_h hr)) (ee_isi rfl T.m_isinstance rfl T.m_bool bt_bool (.inr (.inl rfl)) (ex_var 4 (pv 4))) (ee_isi rfl T.m_isinstance rfl T.m_bool bt_bool (.inr (.inl rfl)) (ex_var 5 (pv 5))) (nomark _)) (ew_or1 (et_cmp (o_ne (hu_h hr)) (ee_var 4 (pv 4)) (ee_var 5 (pv 5)) (nomark _))))))
  (ess_one (es_ret (EE.x ee_bl)))
  ess_nil))))))))))))
  (ess_one (es_ret (EE.x ee_bl)))))⟩
noncomputable def B_is_whole : PEnv → Out := (sRet (eAndV (eX (isiD ["int"]) (xV 0)) (eNotV (eX (isiD ["bool"]) (xV 0)))))
noncomputable def F_is_whole : List D → Rs D := runF 1 B_is_whole
theorem ok_is_whole {f : Addr} {fd : FuncData} (F : Fun K "is_whole" "is_whole" s_is_whole f fd) (bd : Binds K fd ["value"] []) (hm : mg "is_whole" = some (.ref f)) (T : Tp K mg A_BoardError A_BadLot A_NoSuchNumber) : FnP P w K mg base 1 "is_whole" 1 F_is_whole :=
  fn_def (N := ["value"]) (ps := ["value"]) F sc_is_whole bd hm fun cdv A outer s H E hr => ⟨_, (ess_one (es_ret (EE.x (ee_and (ee_isi rfl T.m_isinstance rfl T.m_int bt_int (.inl rfl) (ex_var 0 (pv 0))) (ee_one (ee_not (ee_isi rfl T.m_isinstance rfl T.m_bool bt_bool (.inr (.inl rfl)) (ex_var 0 (pv 0)))))))))⟩
noncomputable def B_frozen (Fr : List D → Rs D) : PEnv → Out := (sSeq (sIf (tT (eX (isiD ["list", "tuple"]) (xV 0)))
  (sRet (eX tupleD (nl (cLc [1] (iSq (eV 0)) (gN 1) (fun _ => .ok true) (eFn 1 Fr (eCons (eV 1) eNil))))))
  sNext)
  (sRet (xV 0)))
noncomputable def R_frozen : Nat → List D → Rs D
  | 0 => fun _ => .bad
  | k + 1 => runF 2 (B_frozen (R_frozen k))
noncomputable def F_frozen : List D → Rs D := R_frozen 8
theorem ok_frozen {f : Addr} {fd : FuncData} (F : Fun K "frozen" "frozen" s_frozen f fd) (bd : Binds K fd ["value"] []) (hm : mg "frozen" = some (.ref f)) (T : Tp K mg A_BoardError A_BadLot A_NoSuchNumber) : FnP P w K mg base 8 "frozen" 1 F_frozen := by
  have key : ∀ k : Nat, FnP P w K mg base k "frozen" 1 (R_frozen k) := fun k => by
    induction k with
    | zero => exact fn_bad F bd hm
    | succ k Gr => exact fn_def (N := ["value", "part"]) (ps := ["value"]) F sc_frozen bd hm fun cdv A outer s H E hr => ⟨_, (ess_cons (es_if (et_val (ee_isi2 rfl T.m_isinstance rfl T.m_list bt_list rfl T.m_tuple bt_tuple (.inr (.inr (.inr (.inl rfl)))) (.inr (.inr (.inr (.inr rfl)))) (ex_var 0 (pv 0))))
  (ess_one (es_ret (EE.x (ee_Tyx b_tuple rfl T.m_tuple bt_tuple (EE.x (EN.ee (en_lc (own := [("part", 1)]) rfl sc_frozen.nd (ei_seq (ee_var 0 (pv 0))) (blkOk_by (N := ["value", "part"]) (sc := defScope s_frozen) (by decide +kernel)) ⟨fun _ _ _ _ _ => ⟨_, (egc_name (i := 1) sc_frozen.nd rfl (by first | exact Or.inl rfl | exact Or.inr rfl) (by decide))⟩, fun _ _ _ _ _ => ⟨_, ets_nil⟩, fun _ _ _ _ _ => ⟨_, (ee_call Gr hr rfl (ea_cons (ee_var 1 (pv 1)) ea_nil))⟩⟩)))))))
  ess_nil)
  (ess_one (es_ret (ex_var 0 (pv 0)))))⟩
  exact key 8
noncomputable def J_NoSuchNumber : PEnv → List (Str × D) → Rs (List (Str × D)) := (iSt "number" (eFn 1 F_frozen (eCons (eV 1) eNil)) iEnd)
noncomputable def I_NoSuchNumber : List D → Rs (List (Str × D)) := iniF 2 J_NoSuchNumber
theorem ox_NoSuchNumber {CA f : Addr} {fd : FuncData} (F : Fun K "__init__" "NoSuchNumber.__init__" s_init_NoSuchNumber f fd) (bd : Binds K fd ["self", "number"] []) (hm : mg "NoSuchNumber" = some (.ref CA)) (Tx : OexC K CA) (hi : PySem.W.findIn K (.ref CA) "__init__" = some (some (.ref f))) (ht : PySem.W.typeIn K (.ref f) = some (.type "function")) (no_number : PySem.W.findIn K (.ref CA) "number" = some none) (T : Tp K mg A_BoardError A_BadLot A_NoSuchNumber) (G_frozen : FnP P w K mg base 8 "frozen" 1 F_frozen) : ExcP P w K mg base 9 "NoSuchNumber" 1 I_NoSuchNumber :=
  exc_def (N := ["self", "number"]) (ps := ["self", "number"]) F sc_init_NoSuchNumber bd rfl (by decide) hm Tx hi ht fun cdv A outer s H E hr => ⟨_, (eis_cons Tx (no_number) (pv 0) (ee_call G_frozen (hr.mono (by decide)) rfl (ea_cons (ee_var 1 (pv 1)) ea_nil)) eis_nil)⟩
noncomputable def B_check_code : PEnv → Out := (sIf (eOr (eNot (tT (eFn 1 F_is_whole (eCons (eV 2) eNil)))) (eOr (tT (eOp ltD (eV 2) (eC (.int 0)))) (tT (eOp geD (eV 2) (eFn 2 F_top_states (eCons (eV 0) (eCons (eV 1) eNil)))))))
  (sRaise "NoSuchNumber" 1 I_NoSuchNumber (eCons (eV 2) eNil))
  sNext)
noncomputable def F_check_code : List D → Rs D := runF 3 B_check_code
theorem ok_check_code {f : Addr} {fd : FuncData} (F : Fun K "check_code" "check_code" s_check_code f fd) (bd : Binds K fd ["width", "many", "code"] []) (hm : mg "check_code" = some (.ref f)) (T : Tp K mg A_BoardError A_BadLot A_NoSuchNumber) (G_is_whole : FnP P w K mg base 1 "is_whole" 1 F_is_whole) (G_top_states : FnP P w K mg base 2 "top_states" 2 F_top_states) (X_NoSuchNumber : ExcP P w K mg base 9 "NoSuchNumber" 1 I_NoSuchNumber) : FnP P w K mg base 11 "check_code" 3 F_check_code :=
  fn_def (N := ["width", "many", "code"]) (ps := ["width", "many", "code"]) F sc_check_code bd hm fun cdv A outer s H E hr => ⟨_, (ess_one (es_if (EW.tt (ew_or (et_not (et_val (ee_call G_is_whole (hr.mono (by decide)) rfl (ea_cons (ee_var 2 (pv 2)) ea_nil)))) (ew_or (et_cmp o_lt (ee_var 2 (pv 2)) ee_int (nomark _)) (ew_or1 (et_cmp o_ge (ee_var 2 (pv 2)) (ee_call G_top_states (hr.mono (by decide)) rfl (ea_cons (ee_var 0 (pv 0)) (ea_cons (ee_var 1 (pv 1)) ea_nil))) (nomark _))))))
  (ess_one (es_raise rfl X_NoSuchNumber (hr.mono (by decide)) rfl (ea_cons (ee_var 2 (pv 2)) ea_nil)))
  ess_nil))⟩
noncomputable def B_greatest_within : PEnv → Out := (sSeq (sSet 3 (eOp subD (eV 1) (eC (.int 1))))
  (sSeq (sWh (eAnd (tT (eOp ltD (eOp addD (eV 3) (eC (.int 1))) (eV 2))) (tT (eOp leD (eFn 2 F_choose (eCons (eOp addD (eV 3) (eC (.int 1))) (eCons (eV 1) eNil))) (eV 0))))
  (sAug 3 (fun i j => i + j) (eC (.int 1))))
  (sRet (xV 3))))
noncomputable def F_greatest_within : List D → Rs D := runF 4 B_greatest_within
theorem ok_greatest_within {f : Addr} {fd : FuncData} (F : Fun K "greatest_within" "greatest_within" s_greatest_within f fd) (bd : Binds K fd ["rest", "some", "width"] []) (hm : mg "greatest_within" = some (.ref f)) (T : Tp K mg A_BoardError A_BadLot A_NoSuchNumber) (G_choose : FnP P w K mg base 1 "choose" 2 F_choose) : FnP P w K mg base 2 "greatest_within" 3 F_greatest_within :=
  fn_def (N := ["rest", "some", "width", "item"]) (ps := ["rest", "some", "width"]) F sc_greatest_within bd hm fun cdv A outer s H E hr => ⟨_, (ess_cons (es_set (i := 3) sc_greatest_within.nd rfl (by first | exact Or.inl rfl | exact Or.inr rfl) (ee_op o_sub (ee_var 1 (pv 1)) ee_int))
  (ess_cons (es_while (EW.tt (ew_and (et_cmp o_lt (ee_op o_add (ee_var 3 (pv 3)) ee_int) (ee_var 2 (pv 2)) (nomark _)) (ew_and1 (et_cmp o_le (ee_call G_choose (hr.mono (by decide)) rfl (ea_cons (ee_op o_add (ee_var 3 (pv 3)) ee_int) (ea_cons (ee_var 1 (pv 1)) ea_nil))) (ee_var 0 (pv 0)) (nomark _)))))
  (ess_one (es_aug (i := 3) sc_greatest_within.nd rfl (by first | exact Or.inl rfl | exact Or.inr rfl) ee_int ip_add)))
  (ess_one (es_ret (ex_var 3 (pv 3))))))⟩
noncomputable def B_coded_state : PEnv → Out := (sSeq (sDrop (eFn 3 F_check_code (eCons (eV 0) (eCons (eV 1) (eCons (eV 2) eNil)))))
  (sSeq (sSet 3 (eV 2))
  (sSeq (sSet 4 (eC (.int 0)))
  (sSeq (sWh (tT (eOp geD (eV 3) (eFn 2 F_choose (eCons (eV 0) (eCons (eV 4) eNil)))))
  (sSeq (sSet 3 (eOp subD (eV 3) (eFn 2 F_choose (eCons (eV 0) (eCons (eV 4) eNil)))))
  (sAug 4 (fun i j => i + j) (eC (.int 1)))))
  (sSeq (sSet 5 (eC (.int 0)))
  (sSeq (sFor (iR1 (eCons (eV 4) eNil)) (gN 6)
  (sSeq (sSet 7 (eOp subD (eV 4) (eV 6)))
  (sSeq (sSet 8 (eFn 3 F_greatest_within (eCons (eV 3) (eCons (eV 7) (eCons (eV 0) eNil)))))
  (sSeq (sSet 5 (eOp orD (eV 5) (eOp shlD (eC (.int 1)) (eV 8))))
  (sSet 3 (eOp subD (eV 3) (eFn 2 F_choose (eCons (eV 8) (eCons (eV 7) eNil)))))))))
  (sRet (xV 5))))))))
noncomputable def F_coded_state : List D → Rs D := runF 9 B_coded_state
theorem ok_coded_state {f : Addr} {fd : FuncData} (F : Fun K "coded_state" "coded_state" s_coded_state f fd) (bd : Binds K fd ["width", "many", "code"] []) (hm : mg "coded_state" = some (.ref f)) (T : Tp K mg A_BoardError A_BadLot A_NoSuchNumber) (G_check_code : FnP P w K mg base 11 "check_code" 3 F_check_code) (G_choose : FnP P w K mg base 1 "choose" 2 F_choose) (G_greatest_within : FnP P w K mg base 2 "greatest_within" 3 F_greatest_within) : FnP P w K mg base 12 "coded_state" 3 F_coded_state :=
  fn_def (N := ["width", "many", "code", "rest", "some", "lot", "back", "left", "item"]) (ps := ["width", "many", "code"]) F sc_coded_state bd hm fun cdv A outer s H E hr => ⟨_, (ess_cons (es_expr (ee_call G_check_code (hr.mono (by decide)) rfl (ea_cons (ee_var 0 (pv 0)) (ea_cons (ee_var 1 (pv 1)) (ea_cons (ee_var 2 (pv 2)) ea_nil)))))
  (ess_cons (es_set (i := 3) sc_coded_state.nd rfl (by first | exact Or.inl rfl | exact Or.inr rfl) (ee_var 2 (pv 2)))
  (ess_cons (es_set (i := 4) sc_coded_state.nd rfl (by first | exact Or.inl rfl | exact Or.inr rfl) ee_int)
  (ess_cons (es_while (et_cmp o_ge (ee_var 3 (pv 3)) (ee_call G_choose (hr.mono (by decide)) rfl (ea_cons (ee_var 0 (pv 0)) (ea_cons (ee_var 4 (pv 4)) ea_nil))) (nomark _))
  (ess_cons (es_set (i := 3) sc_coded_state.nd rfl (by first | exact Or.inl rfl | exact Or.inr rfl) (ee_op o_sub (ee_var 3 (pv 3)) (ee_call G_choose (hr.mono (by decide)) rfl (ea_cons (ee_var 0 (pv 0)) (ea_cons (ee_var 4 (pv 4)) ea_nil)))))
  (ess_one (es_aug (i := 4) sc_coded_state.nd rfl (by first | exact Or.inl rfl | exact Or.inr rfl) ee_int ip_add))))
  (ess_cons (es_set (i := 5) sc_coded_state.nd rfl (by first | exact Or.inl rfl | exact Or.inr rfl) ee_int)
  (ess_cons (es_for rfl (ei_r1 rfl T.m_range (ea_cons (ee_var 4 (pv 4)) ea_nil)) (eg_name (i := 6) sc_coded_state.nd rfl (by first | exact Or.inl rfl | exact Or.inr rfl))
  (ess_cons (es_set (i := 7) sc_coded_state.nd rfl (by first | exact Or.inl rfl | exact Or.inr rfl) (ee_op o_sub (ee_var 4 (pv 4)) (ee_var 6 (pv 6))))
  (ess_cons (es_set (i := 8) sc_coded_state.nd rfl (by first | exact Or.inl rfl | exact Or.inr rfl) (ee_call G_greatest_within (hr.mono (by decide)) rfl (ea_cons (ee_var 3 (pv 3)) (ea_cons (ee_var 7 (pv 7)) (ea_cons (ee_var 0 (pv 0)) ea_nil)))))
  (ess_cons (es_set (i := 5) sc_coded_state.nd rfl (by first | exact Or.inl rfl | exact Or.inr rfl) (ee_op o_or (ee_var 5 (pv 5)) (ee_op o_shl ee_int (ee_var 8 (pv 8)))))
  (ess_one (es_set (i := 3) sc_coded_state.nd rfl (by first | exact Or.inl rfl | exact Or.inr rfl) (ee_op o_sub (ee_var 3 (pv 3)) (ee_call G_choose (hr.mono (by decide)) rfl (ea_cons (ee_var 8 (pv 8)) (ea_cons (ee_var 7 (pv 7)) ea_nil))))))))))
  (ess_one (es_ret (ex_var 5 (pv 5))))))))))⟩
noncomputable def B_full : PEnv → Out := (sRet (eOp subD (eOp shlD (eC (.int 1)) (eV 0)) (eC (.int 1))))
noncomputable def F_full : List D → Rs D := runF 1 B_full
theorem ok_full {f : Addr} {fd : FuncData} (F : Fun K "full" "full" s_full f fd) (bd : Binds K fd ["width"] []) (hm : mg "full" = some (.ref f)) (T : Tp K mg A_BoardError A_BadLot A_NoSuchNumber) : FnP P w K mg base 1 "full" 1 F_full :=
  fn_def (N := ["width"]) (ps := ["width"]) F sc_full bd hm fun cdv A outer s H E hr => ⟨_, (ess_one (es_ret (EE.x (ee_op o_sub (ee_op o_shl ee_int (ee_var 0 (pv 0))) ee_int))))⟩
noncomputable def B_is_lot : PEnv → Out := (sRet (eAndV (eFn 1 F_is_whole (eCons (eV 0) eNil)) (eChain leD leD (eC (.int 0)) (eV 0) (eFn 1 F_full (eCons (eV 1) eNil)))))
noncomputable def F_is_lot : List D → Rs D := runF 2 B_is_lot
theorem ok_is_lot {f : Addr} {fd : FuncData} (F : Fun K "is_lot" "is_lot" s_is_lot f fd) (bd : Binds K fd ["value", "width"] []) (hm : mg "is_lot" = some (.ref f)) (T : Tp K mg A_BoardError A_BadLot A_NoSuchNumber) (G_is_whole : FnP P w K mg base 1 "is_whole" 1 F_is_whole) (G_full : FnP P w K mg base 1 "full" 1 F_full) : FnP P w K mg base 2 "is_lot" 2 F_is_lot :=
  fn_def (N := ["value", "width"]) (ps := ["value", "width"]) F sc_is_lot bd hm fun cdv A outer s H E hr => ⟨_, (ess_one (es_ret (EE.x (ee_and (ee_call G_is_whole (hr.mono (by decide)) rfl (ea_cons (ee_var 0 (pv 0)) ea_nil)) (ee_one (ee_chain o_le o_le ee_int (ee_var 0 (pv 0)) (ee_call G_full (hr.mono (by decide)) rfl (ea_cons (ee_var 1 (pv 1)) ea_nil))))))))⟩
noncomputable def B_items_of : PEnv → Out := (sSeq (sSetN 1 (eLst eNil))
  (sSeq (sSet 2 (eC (.int 0)))
  (sSeq (sWh (tT (eOp gtD (eOp shrD (eV 0) (eV 2)) (eC (.int 0))))
  (sSeq (sIf (tT (eOp eqDD (eOp andD (eOp shrD (eV 0) (eV 2)) (eC (.int 1))) (eC (.int 1))))
  (sApp 1 (eV 2))
  sNext)
  (sAug 2 (fun i j => i + j) (eC (.int 1)))))
  (sRet (eX tupleD (xV 1))))))
noncomputable def F_items_of : List D → Rs D := runF 3 B_items_of
theorem ok_items_of {f : Addr} {fd : FuncData} (F : Fun K "items_of" "items_of" s_items_of f fd) (bd : Binds K fd ["lot"] []) (hm : mg "items_of" = some (.ref f)) (T : Tp K mg A_BoardError A_BadLot A_NoSuchNumber) : FnP P w K mg base 1 "items_of" 1 F_items_of :=
  fn_def (N := ["lot", "found", "item"]) (ps := ["lot"]) F sc_items_of bd hm fun cdv A outer s H E hr => ⟨_, (ess_cons (es_setN (i := 1) sc_items_of.nd rfl (by first | exact Or.inl rfl | exact Or.inr rfl) (en_lst ea_nil))
  (ess_cons (es_set (i := 2) sc_items_of.nd rfl (by first | exact Or.inl rfl | exact Or.inr rfl) ee_int)
  (ess_cons (es_while (et_cmp o_gt (ee_op o_shr (ee_var 0 (pv 0)) (ee_var 2 (pv 2))) ee_int (nomark _))
  (ess_cons (es_if (et_cmp (o_eq hr.units) (ee_op o_and (ee_op o_shr (ee_var 0 (pv 0)) (ee_var 2 (pv 2))) ee_int) ee_int (nomark _))
  (ess_one (es_appN (i := 1) (pv 1) (ee_var 2 (pv 2))))
  ess_nil)
  (ess_one (es_aug (i := 2) sc_items_of.nd rfl (by first | exact Or.inl rfl | exact Or.inr rfl) ee_int ip_add))))
  (ess_one (es_ret (EE.x (ee_Tyx b_tuple rfl T.m_tuple bt_tuple (ex_var 1 (pv 1)))))))))⟩
noncomputable def B_size : PEnv → Out := (sRet (eX lenD (eFn 1 F_items_of (eCons (eV 0) eNil))))
noncomputable def F_size : List D → Rs D := runF 1 B_size
theorem ok_size {f : Addr} {fd : FuncData} (F : Fun K "size" "size" s_size f fd) (bd : Binds K fd ["lot"] []) (hm : mg "size" = some (.ref f)) (T : Tp K mg A_BoardError A_BadLot A_NoSuchNumber) (G_items_of : FnP P w K mg base 1 "items_of" 1 F_items_of) : FnP P w K mg base 2 "size" 1 F_size :=
  fn_def (N := ["lot"]) (ps := ["lot"]) F sc_size bd hm fun cdv A outer s H E hr => ⟨_, (ess_one (es_ret (EE.x (ee_Bx b_len rfl T.m_len bt_len (EE.x (ee_call G_items_of (hr.mono (by decide)) rfl (ea_cons (ee_var 0 (pv 0)) ea_nil)))))))⟩
noncomputable def J_BadLot : PEnv → List (Str × D) → Rs (List (Str × D)) := (iSt "lot" (eFn 1 F_frozen (eCons (eV 1) eNil)) iEnd)
noncomputable def I_BadLot : List D → Rs (List (Str × D)) := iniF 2 J_BadLot
theorem ox_BadLot {CA f : Addr} {fd : FuncData} (F : Fun K "__init__" "BadLot.__init__" s_init_BadLot f fd) (bd : Binds K fd ["self", "lot"] []) (hm : mg "BadLot" = some (.ref CA)) (Tx : OexC K CA) (hi : PySem.W.findIn K (.ref CA) "__init__" = some (some (.ref f))) (ht : PySem.W.typeIn K (.ref f) = some (.type "function")) (no_lot : PySem.W.findIn K (.ref CA) "lot" = some none) (T : Tp K mg A_BoardError A_BadLot A_NoSuchNumber) (G_frozen : FnP P w K mg base 8 "frozen" 1 F_frozen) : ExcP P w K mg base 9 "BadLot" 1 I_BadLot :=
  exc_def (N := ["self", "lot"]) (ps := ["self", "lot"]) F sc_init_BadLot bd rfl (by decide) hm Tx hi ht fun cdv A outer s H E hr => ⟨_, (eis_cons Tx (no_lot) (pv 0) (ee_call G_frozen (hr.mono (by decide)) rfl (ea_cons (ee_var 1 (pv 1)) ea_nil)) eis_nil)⟩
noncomputable def B_state_code : PEnv → Out := (sSeq (sIf (eOr (eNot (tT (eFn 2 F_is_lot (eCons (eV 2) (eCons (eV 0) eNil))))) (tT (eOp gtD (eFn 1 F_size (eCons (eV 2) eNil)) (eV 1))))
  (sRaise "BadLot" 1 I_BadLot (eCons (eV 2) eNil))
  sNext)
  (sSeq (sSet 3 (eFn 1 F_items_of (eCons (eV 2) eNil)))
  (sSeq (sSet 4 (eX sumD (nl (cLc [6] (iR1 (eCons (eX lenD (xV 3)) eNil)) (gN 6) (fun _ => .ok true) (eFn 2 F_choose (eCons (eV 0) (eCons (eV 6) eNil)))))))
  (sSeq (sFor (iR1 (eCons (eX lenD (xV 3)) eNil)) (gN 5)
  (sSet 4 (eOp addD (eV 4) (eFn 2 F_choose (eCons (eOp ixD (xV 3) (eV 5)) (eCons (eOp addD (eV 5) (eC (.int 1))) eNil))))))
  (sRet (xV 4))))))
noncomputable def F_state_code : List D → Rs D := runF 7 B_state_code
theorem ok_state_code {f : Addr} {fd : FuncData} (F : Fun K "state_code" "state_code" s_state_code f fd) (bd : Binds K fd ["width", "many", "lot"] []) (hm : mg "state_code" = some (.ref f)) (T : Tp K mg A_BoardError A_BadLot A_NoSuchNumber) (G_is_lot : FnP P w K mg base 2 "is_lot" 2 F_is_lot) (G_size : FnP P w K mg base 2 "size" 1 F_size) (G_items_of : FnP P w K mg base 1 "items_of" 1 F_items_of) (G_choose : FnP P w K mg base 1 "choose" 2 F_choose) (X_BadLot : ExcP P w K mg base 9 "BadLot" 1 I_BadLot) : FnP P w K mg base 11 "state_code" 3 F_state_code :=
  fn_def (N := ["width", "many", "lot", "listed", "code", "at", "some"]) (ps := ["width", "many", "lot"]) F sc_state_code bd hm fun cdv A outer s H E hr => ⟨_, (ess_cons (es_if (EW.tt (ew_or (et_not (et_val (ee_call G_is_lot (hr.mono (by decide)) rfl (ea_cons (ee_var 2 (pv 2)) (ea_cons (ee_var 0 (pv 0)) ea_nil))))) (ew_or1 (et_cmp o_gt (ee_call G_size (hr.mono (by decide)) rfl (ea_cons (ee_var 2 (pv 2)) ea_nil)) (ee_var 1 (pv 1)) (nomark _)))))
  (ess_one (es_raise rfl X_BadLot (hr.mono (by decide)) rfl (ea_cons (ee_var 2 (pv 2)) ea_nil)))
  ess_nil)
  (ess_cons (es_set (i := 3) sc_state_code.nd rfl (by first | exact Or.inl rfl | exact Or.inr rfl) (ee_call G_items_of (hr.mono (by decide)) rfl (ea_cons (ee_var 2 (pv 2)) ea_nil)))
  (ess_cons (es_set (i := 4) sc_state_code.nd rfl (by first | exact Or.inl rfl | exact Or.inr rfl) (ee_Bx (b_sum rfl) rfl T.m_sum bt_sum (EE.x (EN.ee (en_lc (own := [("some", 6)]) rfl sc_state_code.nd (ei_r1 rfl T.m_range (ea_cons (ee_Bx b_len rfl T.m_len bt_len (ex_var 3 (pv 3))) ea_nil)) (blkOk_by (N := ["width", "many", "lot", "listed", "code", "at", "some"]) (sc := defScope s_state_code) (by decide +kernel)) ⟨fun _ _ _ _ _ => ⟨_, (egc_name (i := 6) sc_state_code.nd rfl (by first | exact Or.inl rfl | exact Or.inr rfl) (by decide))⟩, fun _ _ _ _ _ => ⟨_, ets_nil⟩, fun _ _ _ _ _ => ⟨_, (ee_call G_choose (hr.mono (by decide)) rfl (ea_cons (ee_var 0 (pv 0)) (ea_cons (ee_var 6 (pv 6)) ea_nil)))⟩⟩)))))
  (ess_cons (es_for rfl (ei_r1 rfl T.m_range (ea_cons (ee_Bx b_len rfl T.m_len bt_len (ex_var 3 (pv 3))) ea_nil)) (eg_name (i := 5) sc_state_code.nd rfl (by first | exact Or.inl rfl | exact Or.inr rfl))
  (ess_one (es_set (i := 4) sc_state_code.nd rfl (by first | exact Or.inl rfl | exact Or.inr rfl) (ee_op o_add (ee_var 4 (pv 4)) (ee_call G_choose (hr.mono (by decide)) rfl (ea_cons (ee_ix (ex_var 3 (pv 3)) (ee_var 5 (pv 5)) (fun _ _ => rfl)) (ea_cons (ee_op o_add (ee_var 5 (pv 5)) ee_int) ea_nil)))))))
  (ess_one (es_ret (ex_var 4 (pv 4))))))))⟩
noncomputable def B__law_top : PEnv → Out := (sSeq (sSet 2 (eFn 1 F__law_items (eCons (eV 0) eNil)))
  (sRet (eX sumD (nl (cLc [3] (iSq (eSl (xV 2) (fun ρ => ((eB max2D (eCons (eC (.int 0)) (eCons (eOp subD (eX lenD (xV 2)) (eV 1)) eNil))) ρ).bind toI) (fun _ => .ok none))) (gN 3) (fun _ => .ok true) (eOp shlD (eC (.int 1)) (eV 3)))))))
noncomputable def F__law_top : List D → Rs D := runF 4 B__law_top
theorem ok__law_top {f : Addr} {fd : FuncData} (F : Fun K "_law_top" "_law_top" s__law_top f fd) (bd : Binds K fd ["lot", "many"] []) (hm : mg "_law_top" = some (.ref f)) (T : Tp K mg A_BoardError A_BadLot A_NoSuchNumber) (G__law_items : FnP P w K mg base 1 "_law_items" 1 F__law_items) : FnP P w K mg base 2 "_law_top" 2 F__law_top :=
  fn_def (N := ["lot", "many", "items", "item"]) (ps := ["lot", "many"]) F sc__law_top bd hm fun cdv A outer s H E hr => ⟨_, (ess_cons (es_set (i := 2) sc__law_top.nd rfl (by first | exact Or.inl rfl | exact Or.inr rfl) (ee_call G__law_items (hr.mono (by decide)) rfl (ea_cons (ee_var 0 (pv 0)) ea_nil)))
  (ess_one (es_ret (EE.x (ee_Bx (b_sum rfl) rfl T.m_sum bt_sum (EE.x (EN.ee (en_lc (own := [("item", 3)]) rfl sc__law_top.nd (ei_seq (ee_slice (ex_var 2 (pv 2)) (eo_some (ee_B (b_max2 rfl) rfl T.m_max bt_max (ea_cons ee_int (ea_cons (ee_op o_sub (ee_Bx b_len rfl T.m_len bt_len (ex_var 2 (pv 2))) (ee_var 1 (pv 1))) ea_nil)))) eo_none)) (blkOk_by (N := ["lot", "many", "items", "item"]) (sc := defScope s__law_top) (by decide +kernel)) ⟨fun _ _ _ _ _ => ⟨_, (egc_name (i := 3) sc__law_top.nd rfl (by first | exact Or.inl rfl | exact Or.inr rfl) (by decide))⟩, fun _ _ _ _ _ => ⟨_, ets_nil⟩, fun _ _ _ _ _ => ⟨_, (ee_op o_shl ee_int (ee_var 3 (pv 3)))⟩⟩))))))))⟩
noncomputable def B_lot_of : PEnv → Out := (sSeq (sSet 1 (eC (.int 0)))
  (sSeq (sFor (iSq (eV 0)) (gN 2)
  (sSet 1 (eOp orD (eV 1) (eOp shlD (eC (.int 1)) (eV 2)))))
  (sRet (xV 1))))
noncomputable def F_lot_of : List D → Rs D := runF 3 B_lot_of
theorem ok_lot_of {f : Addr} {fd : FuncData} (F : Fun K "lot_of" "lot_of" s_lot_of f fd) (bd : Binds K fd ["items"] []) (hm : mg "lot_of" = some (.ref f)) (T : Tp K mg A_BoardError A_BadLot A_NoSuchNumber) : FnP P w K mg base 1 "lot_of" 1 F_lot_of :=
  fn_def (N := ["items", "lot", "item"]) (ps := ["items"]) F sc_lot_of bd hm fun cdv A outer s H E hr => ⟨_, (ess_cons (es_set (i := 1) sc_lot_of.nd rfl (by first | exact Or.inl rfl | exact Or.inr rfl) ee_int)
  (ess_cons (es_for rfl (ei_seq (ee_var 0 (pv 0))) (eg_name (i := 2) sc_lot_of.nd rfl (by first | exact Or.inl rfl | exact Or.inr rfl))
  (ess_one (es_set (i := 1) sc_lot_of.nd rfl (by first | exact Or.inl rfl | exact Or.inr rfl) (ee_op o_or (ee_var 1 (pv 1)) (ee_op o_shl ee_int (ee_var 2 (pv 2)))))))
  (ess_one (es_ret (ex_var 1 (pv 1))))))⟩
noncomputable def B_greatest_items : PEnv → Out := (sSeq (sSet 2 (eFn 1 F_items_of (eCons (eV 0) eNil)))
  (sRet (eFn 1 F_lot_of (eCons (eSl (xV 2) (fun ρ => ((eB max2D (eCons (eC (.int 0)) (eCons (eOp subD (eX lenD (xV 2)) (eV 1)) eNil))) ρ).bind toI) (fun _ => .ok none)) eNil))))
noncomputable def F_greatest_items : List D → Rs D := runF 3 B_greatest_items
theorem ok_greatest_items {f : Addr} {fd : FuncData} (F : Fun K "greatest_items" "greatest_items" s_greatest_items f fd) (bd : Binds K fd ["lot", "many"] []) (hm : mg "greatest_items" = some (.ref f)) (T : Tp K mg A_BoardError A_BadLot A_NoSuchNumber) (G_items_of : FnP P w K mg base 1 "items_of" 1 F_items_of) (G_lot_of : FnP P w K mg base 1 "lot_of" 1 F_lot_of) : FnP P w K mg base 2 "greatest_items" 2 F_greatest_items :=
  fn_def (N := ["lot", "many", "listed"]) (ps := ["lot", "many"]) F sc_greatest_items bd hm fun cdv A outer s H E hr => ⟨_, (ess_cons (es_set (i := 2) sc_greatest_items.nd rfl (by first | exact Or.inl rfl | exact Or.inr rfl) (ee_call G_items_of (hr.mono (by decide)) rfl (ea_cons (ee_var 0 (pv 0)) ea_nil)))
  (ess_one (es_ret (EE.x (ee_call G_lot_of (hr.mono (by decide)) rfl (ea_cons (ee_slice (ex_var 2 (pv 2)) (eo_some (ee_B (b_max2 rfl) rfl T.m_max bt_max (ea_cons ee_int (ea_cons (ee_op o_sub (ee_Bx b_len rfl T.m_len bt_len (ex_var 2 (pv 2))) (ee_var 1 (pv 1))) ea_nil)))) eo_none) ea_nil))))))⟩
noncomputable def B_joined_codes : PEnv → Out := (sSeq (sSet 4 (eFn 3 F_coded_state (eCons (eV 0) (eCons (eV 1) (eCons (eV 2) eNil)))))
  (sSeq (sSet 5 (eFn 3 F_coded_state (eCons (eV 0) (eCons (eV 1) (eCons (eV 3) eNil)))))
  (sRet (eFn 3 F_state_code (eCons (eV 0) (eCons (eV 1) (eCons (eFn 2 F_greatest_items (eCons (eOp orD (eV 4) (eV 5)) (eCons (eV 1) eNil))) eNil)))))))
noncomputable def F_joined_codes : List D → Rs D := runF 6 B_joined_codes
theorem ok_joined_codes {f : Addr} {fd : FuncData} (F : Fun K "joined_codes" "joined_codes" s_joined_codes f fd) (bd : Binds K fd ["width", "many", "one", "two"] []) (hm : mg "joined_codes" = some (.ref f)) (T : Tp K mg A_BoardError A_BadLot A_NoSuchNumber) (G_coded_state : FnP P w K mg base 12 "coded_state" 3 F_coded_state) (G_greatest_items : FnP P w K mg base 2 "greatest_items" 2 F_greatest_items) (G_state_code : FnP P w K mg base 11 "state_code" 3 F_state_code) : FnP P w K mg base 13 "joined_codes" 4 F_joined_codes :=
  fn_def (N := ["width", "many", "one", "two", "first", "second"]) (ps := ["width", "many", "one", "two"]) F sc_joined_codes bd hm fun cdv A outer s H E hr => ⟨_, (ess_cons (es_set (i := 4) sc_joined_codes.nd rfl (by first | exact Or.inl rfl | exact Or.inr rfl) (ee_call G_coded_state (hr.mono (by decide)) rfl (ea_cons (ee_var 0 (pv 0)) (ea_cons (ee_var 1 (pv 1)) (ea_cons (ee_var 2 (pv 2)) ea_nil)))))
  (ess_cons (es_set (i := 5) sc_joined_codes.nd rfl (by first | exact Or.inl rfl | exact Or.inr rfl) (ee_call G_coded_state (hr.mono (by decide)) rfl (ea_cons (ee_var 0 (pv 0)) (ea_cons (ee_var 1 (pv 1)) (ea_cons (ee_var 3 (pv 3)) ea_nil)))))
  (ess_one (es_ret (EE.x (ee_call G_state_code (hr.mono (by decide)) rfl (ea_cons (ee_var 0 (pv 0)) (ea_cons (ee_var 1 (pv 1)) (ea_cons (ee_call G_greatest_items (hr.mono (by decide)) rfl (ea_cons (ee_op o_or (ee_var 4 (pv 4)) (ee_var 5 (pv 5))) (ea_cons (ee_var 1 (pv 1)) ea_nil))) ea_nil)))))))))⟩
noncomputable def B__law_triangle : PEnv → Out := (sSeq (sSetN 0 (eLst (eCons (eOp addD (nl (eLst (eCons (eC (.int 1)) eNil))) (eOp mulD (nl (eLst (eCons (eC (.int 0)) eNil))) (eC (.int 41)))) eNil)))
  (sSeq (sFor (iR1 (eCons (eC (.int 41)) eNil)) (gN 1)
  (sSeq (sSet 2 (eOp ixD (xV 0) (eV 1)))
  (sApp 0 (eOp addD (nl (eLst (eCons (eC (.int 1)) eNil))) (nl (cLc [3] (iR2 (eCons (eC (.int 1)) (eCons (eC (.int 42)) eNil))) (gN 3) (fun _ => .ok true) (eOp addD (eOp ixD (xV 2) (eOp subD (eV 3) (eC (.int 1)))) (eOp ixD (xV 2) (eV 3)))))))))
  (sRet (xV 0))))
noncomputable def F__law_triangle : List D → Rs D := runF 4 B__law_triangle
theorem ok__law_triangle {f : Addr} {fd : FuncData} (F : Fun K "_law_triangle" "_law_triangle" s__law_triangle f fd) (bd : Binds K fd [] []) (hm : mg "_law_triangle" = some (.ref f)) (T : Tp K mg A_BoardError A_BadLot A_NoSuchNumber) : FnP P w K mg base 1 "_law_triangle" 0 F__law_triangle :=
  fn_def (N := ["rows", "many", "above", "some"]) (ps := []) F sc__law_triangle bd hm fun cdv A outer s H E hr => ⟨_, (ess_cons (es_setN (i := 0) sc__law_triangle.nd rfl (by first | exact Or.inl rfl | exact Or.inr rfl) (en_lst (ea_cons (ee_op o_add (EN.ee (en_lst (ea_cons ee_int ea_nil))) (ee_op o_mul (EN.ee (en_lst (ea_cons ee_int ea_nil))) ee_int)) ea_nil)))
  (ess_cons (es_for rfl (ei_r1 rfl T.m_range (ea_cons ee_int ea_nil)) (eg_name (i := 1) sc__law_triangle.nd rfl (by first | exact Or.inl rfl | exact Or.inr rfl))
  (ess_cons (es_set (i := 2) sc__law_triangle.nd rfl (by first | exact Or.inl rfl | exact Or.inr rfl) (ee_ix (ex_var 0 (pv 0)) (ee_var 1 (pv 1)) (fun _ _ => rfl)))
  (ess_one (es_appN (i := 0) (pv 0) (ee_op o_add (EN.ee (en_lst (ea_cons ee_int ea_nil))) (EN.ee (en_lc (own := [("some", 3)]) rfl sc__law_triangle.nd (ei_r2 rfl T.m_range (ea_cons ee_int (ea_cons ee_int ea_nil))) (blkOk_by (N := ["rows", "many", "above", "some"]) (sc := defScope s__law_triangle) (by decide +kernel)) ⟨fun _ _ _ _ _ => ⟨_, (egc_name (i := 3) sc__law_triangle.nd rfl (by first | exact Or.inl rfl | exact Or.inr rfl) (by decide))⟩, fun _ _ _ _ _ => ⟨_, ets_nil⟩, fun _ _ _ _ _ => ⟨_, (ee_op o_add (ee_ix (ex_var 2 (pv 2)) (ee_op o_sub (ee_var 3 (pv 3)) ee_int) (fun _ _ => rfl)) (ee_ix (ex_var 2 (pv 2)) (ee_var 3 (pv 3)) (fun _ _ => rfl)))⟩⟩)))))))
  (ess_one (es_ret (ex_var 0 (pv 0))))))⟩
noncomputable def B__law_drawn_state : PEnv → Out := (sSeq (sSet 3 (eFn 2 F__law_digits (eCons (eV 0) (eCons (eOp addD (nl (eLst (eCons (eC (.int 41)) eNil))) (eOp mulD (nl (eLst (eCons (eC (.int 40)) eNil))) (eC (.int 40)))) eNil))))
  (sSeq (sSet 4 (eC (.int 0)))
  (sSeq (sFor (iR1 (eCons (eOp modD (eOp ixD (xV 3) (eC (.int 0))) (eOp addD (eV 2) (eC (.int 1)))) eNil)) (gN 5)
  (sSet 4 (eOp orD (eV 4) (eOp shlD (eC (.int 1)) (eOp modD (eOp ixD (xV 3) (eOp addD (eC (.int 1)) (eV 5))) (eV 1))))))
  (sRet (xV 4)))))
noncomputable def F__law_drawn_state : List D → Rs D := runF 6 B__law_drawn_state
theorem ok__law_drawn_state {f : Addr} {fd : FuncData} (F : Fun K "_law_drawn_state" "_law_drawn_state" s__law_drawn_state f fd) (bd : Binds K fd ["cell", "width", "many"] []) (hm : mg "_law_drawn_state" = some (.ref f)) (T : Tp K mg A_BoardError A_BadLot A_NoSuchNumber) (G__law_digits : FnP P w K mg base 1 "_law_digits" 2 F__law_digits) : FnP P w K mg base 2 "_law_drawn_state" 3 F__law_drawn_state :=
  fn_def (N := ["cell", "width", "many", "row", "lot", "k"]) (ps := ["cell", "width", "many"]) F sc__law_drawn_state bd hm fun cdv A outer s H E hr => ⟨_, (ess_cons (es_set (i := 3) sc__law_drawn_state.nd rfl (by first | exact Or.inl rfl | exact Or.inr rfl) (ee_call G__law_digits (hr.mono (by decide)) rfl (ea_cons (ee_var 0 (pv 0)) (ea_cons (ee_op o_add (EN.ee (en_lst (ea_cons ee_int ea_nil))) (ee_op o_mul (EN.ee (en_lst (ea_cons ee_int ea_nil))) ee_int)) ea_nil))))
  (ess_cons (es_set (i := 4) sc__law_drawn_state.nd rfl (by first | exact Or.inl rfl | exact Or.inr rfl) ee_int)
  (ess_cons (es_for rfl (ei_r1 rfl T.m_range (ea_cons (ee_op o_mod (ee_ix (ex_var 3 (pv 3)) ee_int (fun _ _ => rfl)) (ee_op o_add (ee_var 2 (pv 2)) ee_int)) ea_nil)) (eg_name (i := 5) sc__law_drawn_state.nd rfl (by first | exact Or.inl rfl | exact Or.inr rfl))
  (ess_one (es_set (i := 4) sc__law_drawn_state.nd rfl (by first | exact Or.inl rfl | exact Or.inr rfl) (ee_op o_or (ee_var 4 (pv 4)) (ee_op o_shl ee_int (ee_op o_mod (ee_ix (ex_var 3 (pv 3)) (ee_op o_add ee_int (ee_var 5 (pv 5))) (fun _ _ => rfl)) (ee_var 1 (pv 1))))))))
  (ess_one (es_ret (ex_var 4 (pv 4)))))))⟩
noncomputable def B__law_whole : PEnv → Out := (sRet (eAndV (eX (isiD ["int"]) (xV 0)) (eNotV (eX (isiD ["bool"]) (xV 0)))))
noncomputable def F__law_whole : List D → Rs D := runF 1 B__law_whole
theorem ok__law_whole {f : Addr} {fd : FuncData} (F : Fun K "_law_whole" "_law_whole" s__law_whole f fd) (bd : Binds K fd ["value"] []) (hm : mg "_law_whole" = some (.ref f)) (T : Tp K mg A_BoardError A_BadLot A_NoSuchNumber) : FnP P w K mg base 1 "_law_whole" 1 F__law_whole :=
  fn_def (N := ["value"]) (ps := ["value"]) F sc__law_whole bd hm fun cdv A outer s H E hr => ⟨_, (ess_one (es_ret (EE.x (ee_and (ee_isi rfl T.m_isinstance rfl T.m_int bt_int (.inl rfl) (ex_var 0 (pv 0))) (ee_one (ee_not (ee_isi rfl T.m_isinstance rfl T.m_bool bt_bool (.inr (.inl rfl)) (ex_var 0 (pv 0)))))))))⟩
noncomputable def B__law_code : PEnv → Out := (sSeq (sSet 3 (eFn 1 F__law_items (eCons (eV 2) eNil)))
  (sSeq (sSet 4 (eOp ixD (xV 0) (eV 1)))
  (sSeq (sSet 5 (eX sumD (nl (cLc [7] (iR1 (eCons (eX lenD (xV 3)) eNil)) (gN 7) (fun _ => .ok true) (eOp ixD (xV 4) (eV 7))))))
  (sSeq (sFor (iR1 (eCons (eX lenD (xV 3)) eNil)) (gN 6)
  (sSeq (sSet 4 (eOp ixD (xV 0) (eOp ixD (xV 3) (eV 6))))
  (sSet 5 (eOp addD (eV 5) (eOp ixD (xV 4) (eOp addD (eV 6) (eC (.int 1))))))))
  (sRet (xV 5))))))
noncomputable def F__law_code : List D → Rs D := runF 8 B__law_code
theorem ok__law_code {f : Addr} {fd : FuncData} (F : Fun K "_law_code" "_law_code" s__law_code f fd) (bd : Binds K fd ["rows", "width", "lot"] []) (hm : mg "_law_code" = some (.ref f)) (T : Tp K mg A_BoardError A_BadLot A_NoSuchNumber) (G__law_items : FnP P w K mg base 1 "_law_items" 1 F__law_items) : FnP P w K mg base 2 "_law_code" 3 F__law_code :=
  fn_def (N := ["rows", "width", "lot", "items", "line", "told", "at", "some"]) (ps := ["rows", "width", "lot"]) F sc__law_code bd hm fun cdv A outer s H E hr => ⟨_, (ess_cons (es_set (i := 3) sc__law_code.nd rfl (by first | exact Or.inl rfl | exact Or.inr rfl) (ee_call G__law_items (hr.mono (by decide)) rfl (ea_cons (ee_var 2 (pv 2)) ea_nil)))
  (ess_cons (es_set (i := 4) sc__law_code.nd rfl (by first | exact Or.inl rfl | exact Or.inr rfl) (ee_ix (ex_var 0 (pv 0)) (ee_var 1 (pv 1)) (fun _ _ => rfl)))
  (ess_cons (es_set (i := 5) sc__law_code.nd rfl (by first | exact Or.inl rfl | exact Or.inr rfl) (ee_Bx (b_sum rfl) rfl T.m_sum bt_sum (EE.x (EN.ee (en_lc (own := [("some", 7)]) rfl sc__law_code.nd (ei_r1 rfl T.m_range (ea_cons (ee_Bx b_len rfl T.m_len bt_len (ex_var 3 (pv 3))) ea_nil)) (blkOk_by (N := ["rows", "width", "lot", "items", "line", "told", "at", "some"]) (sc := defScope s__law_code) (by decide +kernel)) ⟨fun _ _ _ _ _ => ⟨_, (egc_name (i := 7) sc__law_code.nd rfl (by first | exact Or.inl rfl | exact Or.inr rfl) (by decide))⟩, fun _ _ _ _ _ => ⟨_, ets_nil⟩, fun _ _ _ _ _ => ⟨_, (ee_ix (ex_var 4 (pv 4)) (ee_var 7 (pv 7)) (fun _ _ => rfl))⟩⟩)))))
  (ess_cons (es_for rfl (ei_r1 rfl T.m_range (ea_cons (ee_Bx b_len rfl T.m_len bt_len (ex_var 3 (pv 3))) ea_nil)) (eg_name (i := 6) sc__law_code.nd rfl (by first | exact Or.inl rfl | exact Or.inr rfl))
  (ess_cons (es_set (i := 4) sc__law_code.nd rfl (by first | exact Or.inl rfl | exact Or.inr rfl) (ee_ix (ex_var 0 (pv 0)) (ee_ix (ex_var 3 (pv 3)) (ee_var 6 (pv 6)) (fun _ _ => rfl)) (fun _ _ => rfl)))
  (ess_one (es_set (i := 5) sc__law_code.nd rfl (by first | exact Or.inl rfl | exact Or.inr rfl) (ee_op o_add (ee_var 5 (pv 5)) (ee_ix (ex_var 4 (pv 4)) (ee_op o_add (ee_var 6 (pv 6)) ee_int) (fun _ _ => rfl)))))))
  (ess_one (es_ret (ex_var 5 (pv 5))))))))⟩
noncomputable def B__law_next : PEnv → Out := (sSeq (sSet 2 (eFn 1 F__law_items (eCons (eV 1) eNil)))
  (sSeq (sFor (iR1 (eCons (eX lenD (xV 2)) eNil)) (gN 3)
  (sSeq (sSet 4 (eOp ixD (xV 2) (eV 3)))
  (sIf (eAnd (tT (eOp ltD (eOp addD (eV 4) (eC (.int 1))) (eV 0))) (tT (eOp (inD true) (eOp addD (eV 4) (eC (.int 1))) (xV 2))))
  (sRet (eOp orD (eOp orD (eOp andD (eV 1) (eX invD (eOp subD (eOp shlD (eC (.int 1)) (eOp addD (eV 4) (eC (.int 1)))) (eC (.int 1))))) (eOp shlD (eC (.int 1)) (eOp addD (eV 4) (eC (.int 1))))) (eOp subD (eOp shlD (eC (.int 1)) (eV 3)) (eC (.int 1)))))
  sNext)))
  (sSeq (sIf (tT (eOp eqDD (eX lenD (xV 2)) (eV 0)))
  (sRet (eC .non))
  sNext)
  (sRet (eOp subD (eOp shlD (eC (.int 1)) (eOp addD (eX lenD (xV 2)) (eC (.int 1)))) (eC (.int 1)))))))
noncomputable def F__law_next : List D → Rs D := runF 5 B__law_next
theorem ok__law_next {f : Addr} {fd : FuncData} (F : Fun K "_law_next" "_law_next" s__law_next f fd) (bd : Binds K fd ["width", "lot"] []) (hm : mg "_law_next" = some (.ref f)) (T : Tp K mg A_BoardError A_BadLot A_NoSuchNumber) (G__law_items : FnP P w K mg base 1 "_law_items" 1 F__law_items) : FnP P w K mg base 2 "_law_next" 2 F__law_next :=
  fn_def (N := ["width", "lot", "items", "at", "item"]) (ps := ["width", "lot"]) F sc__law_next bd hm fun cdv A outer s H E hr => ⟨_, (ess_cons (es_set (i := 2) sc__law_next.nd rfl (by first | exact Or.inl rfl | exact Or.inr rfl) (ee_call G__law_items (hr.mono (by decide)) rfl (ea_cons (ee_var 1 (pv 1)) ea_nil)))
  (ess_cons (es_for rfl (ei_r1 rfl T.m_range (ea_cons (ee_Bx b_len rfl T.m_len bt_len (ex_var 2 (pv 2))) ea_nil)) (eg_name (i := 3) sc__law_next.nd rfl (by first | exact Or.inl rfl | exact Or.inr rfl))
  (ess_cons (es_set (i := 4) sc__law_next.nd rfl (by first | exact Or.inl rfl | exact Or.inr rfl) (ee_ix (ex_var 2 (pv 2)) (ee_var 3 (pv 3)) (fun _ _ => rfl)))
  (ess_one (es_if (EW.tt (ew_and (et_cmp o_lt (ee_op o_add (ee_var 4 (pv 4)) ee_int) (ee_var 0 (pv 0)) (nomark _)) (ew_and1 (et_notIn (ee_op o_add (ee_var 4 (pv 4)) ee_int) (ex_var 2 (pv 2)) (by rfl)))))
  (ess_one (es_ret (EE.x (ee_op o_or (ee_op o_or (ee_op o_and (ee_var 1 (pv 1)) (ee_un u_inv (ee_op o_sub (ee_op o_shl ee_int (ee_op o_add (ee_var 4 (pv 4)) ee_int)) ee_int))) (ee_op o_shl ee_int (ee_op o_add (ee_var 4 (pv 4)) ee_int))) (ee_op o_sub (ee_op o_shl ee_int (ee_var 3 (pv 3))) ee_int)))))
  ess_nil))))
  (ess_cons (es_if (et_cmp (o_eq hr.units) (ee_Bx b_len rfl T.m_len bt_len (ex_var 2 (pv 2))) (ee_var 0 (pv 0)) (nomark _))
  (ess_one (es_ret (EE.x ee_non)))
  ess_nil)
  (ess_one (es_ret (EE.x (ee_op o_sub (ee_op o_shl ee_int (ee_op o_add (ee_Bx b_len rfl T.m_len bt_len (ex_var 2 (pv 2))) ee_int)) ee_int)))))))⟩
noncomputable def B_bits : PEnv → Out := (sSeq (sSet 1 (eC (.int 0)))
  (sSeq (sSet 2 (eC (.int 1)))
  (sSeq (sWh (tT (eOp ltD (eV 2) (eV 0)))
  (sSeq (sSet 2 (eOp mulD (eV 2) (eC (.int 2))))
  (sAug 1 (fun i j => i + j) (eC (.int 1)))))
  (sRet (xV 1)))))
noncomputable def F_bits : List D → Rs D := runF 3 B_bits
theorem ok_bits {f : Addr} {fd : FuncData} (F : Fun K "bits" "bits" s_bits f fd) (bd : Binds K fd ["count"] []) (hm : mg "bits" = some (.ref f)) (T : Tp K mg A_BoardError A_BadLot A_NoSuchNumber) : FnP P w K mg base 1 "bits" 1 F_bits :=
  fn_def (N := ["count", "told", "reach"]) (ps := ["count"]) F sc_bits bd hm fun cdv A outer s H E hr => ⟨_, (ess_cons (es_set (i := 1) sc_bits.nd rfl (by first | exact Or.inl rfl | exact Or.inr rfl) ee_int)
  (ess_cons (es_set (i := 2) sc_bits.nd rfl (by first | exact Or.inl rfl | exact Or.inr rfl) ee_int)
  (ess_cons (es_while (et_cmp o_lt (ee_var 2 (pv 2)) (ee_var 0 (pv 0)) (nomark _))
  (ess_cons (es_set (i := 2) sc_bits.nd rfl (by first | exact Or.inl rfl | exact Or.inr rfl) (ee_op o_mul (ee_var 2 (pv 2)) ee_int))
  (ess_one (es_aug (i := 1) sc_bits.nd rfl (by first | exact Or.inl rfl | exact Or.inr rfl) ee_int ip_add))))
  (ess_one (es_ret (ex_var 1 (pv 1)))))))⟩
noncomputable def B__law_bits_right : PEnv → Out := (sSeq (sSet 1 (eFn 1 F_bits (eCons (eV 0) eNil)))
  (sSeq (sIf (eOr (eNot (tT (eFn 1 F__law_whole (eCons (eV 1) eNil)))) (eOr (tT (eOp ltD (eV 1) (eC (.int 0)))) (tT (eOp gtD (eV 1) (eC (.int 80))))))
  (sRet (eC (.bl false)))
  sNext)
  (sRet (eAndV (eOp geD (eOp shlD (eC (.int 1)) (eV 1)) (eV 0)) (eOrV (eOp eqDD (eV 1) (eC (.int 0))) (eOp ltD (eOp shlD (eC (.int 1)) (eOp subD (eV 1) (eC (.int 1)))) (eV 0)))))))
noncomputable def F__law_bits_right : List D → Rs D := runF 2 B__law_bits_right
theorem ok__law_bits_right {f : Addr} {fd : FuncData} (F : Fun K "_law_bits_right" "_law_bits_right" s__law_bits_right f fd) (bd : Binds K fd ["number"] []) (hm : mg "_law_bits_right" = some (.ref f)) (T : Tp K mg A_BoardError A_BadLot A_NoSuchNumber) (G_bits : FnP P w K mg base 1 "bits" 1 F_bits) (G__law_whole : FnP P w K mg base 1 "_law_whole" 1 F__law_whole) : FnP P w K mg base 2 "_law_bits_right" 1 F__law_bits_right :=
  fn_def (N := ["number", "told"]) (ps := ["number"]) F sc__law_bits_right bd hm fun cdv A outer s H E hr => ⟨_, (ess_cons (es_set (i := 1) sc__law_bits_right.nd rfl (by first | exact Or.inl rfl | exact Or.inr rfl) (ee_call G_bits (hr.mono (by decide)) rfl (ea_cons (ee_var 0 (pv 0)) ea_nil)))
  (ess_cons (es_if (EW.tt (ew_or (et_not (et_val (ee_call G__law_whole (hr.mono (by decide)) rfl (ea_cons (ee_var 1 (pv 1)) ea_nil)))) (ew_or (et_cmp o_lt (ee_var 1 (pv 1)) ee_int (nomark _)) (ew_or1 (et_cmp o_gt (ee_var 1 (pv 1)) ee_int (nomark _))))))
  (ess_one (es_ret (EE.x ee_bl)))
  ess_nil)
  (ess_one (es_ret (EE.x (ee_and (ee_cmp o_ge (ee_op o_shl ee_int (ee_var 1 (pv 1))) (ee_var 0 (pv 0)) (nomark _)) (ee_one (ee_or (ee_cmp (o_eq hr.units) (ee_var 1 (pv 1)) ee_int (nomark _)) (ee_one (ee_cmp o_lt (ee_op o_shl ee_int (ee_op o_sub (ee_var 1 (pv 1)) ee_int)) (ee_var 0 (pv 0)) (nomark _)))))))))))⟩
noncomputable def B__law_refused : PEnv → Out := (sSeq (sTry 4 sub_err
  (sIf (tT (eOp eqDD (eV 0) (eC (.int 0))))
  (sDrop (eFn 3 F_state_code (eCons (eV 1) (eCons (eV 2) (eCons (eV 3) eNil)))))
  (sIf (tT (eOp eqDD (eV 0) (eC (.int 1))))
  (sDrop (eFn 3 F_coded_state (eCons (eV 1) (eCons (eV 2) (eCons (eV 3) eNil)))))
  (sIf (tT (eOp eqDD (eV 0) (eC (.int 2))))
  (sDrop (eFn 4 F_joined_codes (eCons (eV 1) (eCons (eV 2) (eCons (eV 3) (eCons (eC (.int 0)) eNil))))))
  (sIf (tT (eOp eqDD (eV 0) (eC (.int 3))))
  (sDrop (eFn 4 F_joined_codes (eCons (eV 1) (eCons (eV 2) (eCons (eC (.int 0)) (eCons (eV 3) eNil))))))
  (sDrop (eFn 4 F_joined_codes (eCons (eV 1) (eCons (eV 2) (eCons (eV 3) (eCons (eX negD (eC (.int 2))) eNil))))))))))
  (fun a CA d => (sSeq (sIf (tT (eOp eqDD (eV 0) (eC (.int 0))))
  (sRet (eAndV (eXi a CA d 4 isa_BadLot) (eAndV (eNotV (eXi a CA d 4 isa_NoSuchNumber)) (eFn 2 F__law_alike (eCons (eXf a CA d 4 "lot") (eCons (eV 3) eNil))))))
  sNext)
  (sRet (eAndV (eXi a CA d 4 isa_NoSuchNumber) (eAndV (eNotV (eXi a CA d 4 isa_BadLot)) (eFn 2 F__law_alike (eCons (eXf a CA d 4 "number") (eCons (eV 3) eNil)))))))))
  (sRet (eC (.bl false))))
noncomputable def F__law_refused : List D → Rs D := runF 5 B__law_refused
theorem ok__law_refused {f : Addr} {fd : FuncData} (F : Fun K "_law_refused" "_law_refused" s__law_refused f fd) (bd : Binds K fd ["way", "width", "many", "value"] []) (hm : mg "_law_refused" = some (.ref f)) (T : Tp K mg A_BoardError A_BadLot A_NoSuchNumber) (G_state_code : FnP P w K mg base 11 "state_code" 3 F_state_code) (G_coded_state : FnP P w K mg base 12 "coded_state" 3 F_coded_state) (G_joined_codes : FnP P w K mg base 13 "joined_codes" 4 F_joined_codes) (H__law_alike : FnHP P w K mg base 1 "_law_alike" 2 F__law_alike) : FnP P w K mg base 14 "_law_refused" 4 F__law_refused :=
  fn_def (N := ["way", "width", "many", "value", "error"]) (ps := ["way", "width", "many", "value"]) F sc__law_refused bd hm fun cdv A outer s H E hr => ⟨_, (ess_cons (es_try (i := 4) (attrs := attrs_err) rfl rfl sc__law_refused.nd rfl rfl ⟨rfl, by decide, .inl T.c_BoardError⟩ T.cls
  (fun W' pn xe => ⟨_, (ess_one (es_if (et_cmp (o_eq hr.units) (ee_var 0 (pv 0)) ee_int (nomark _))
  (ess_one (es_expr (ee_call G_state_code (hr.mono (by decide)) rfl (ea_cons (ee_var 1 (pv 1)) (ea_cons (ee_var 2 (pv 2)) (ea_cons (ee_var 3 (pv 3)) ea_nil))))))
  (ess_one (es_if (et_cmp (o_eq hr.units) (ee_var 0 (pv 0)) ee_int (nomark _))
  (ess_one (es_expr (ee_call G_coded_state (hr.mono (by decide)) rfl (ea_cons (ee_var 1 (pv 1)) (ea_cons (ee_var 2 (pv 2)) (ea_cons (ee_var 3 (pv 3)) ea_nil))))))
  (ess_one (es_if (et_cmp (o_eq hr.units) (ee_var 0 (pv 0)) ee_int (nomark _))
  (ess_one (es_expr (ee_call G_joined_codes (hr.mono (by decide)) rfl (ea_cons (ee_var 1 (pv 1)) (ea_cons (ee_var 2 (pv 2)) (ea_cons (ee_var 3 (pv 3)) (ea_cons ee_int ea_nil)))))))
  (ess_one (es_if (et_cmp (o_eq hr.units) (ee_var 0 (pv 0)) ee_int (nomark _))
  (ess_one (es_expr (ee_call G_joined_codes (hr.mono (by decide)) rfl (ea_cons (ee_var 1 (pv 1)) (ea_cons (ee_var 2 (pv 2)) (ea_cons ee_int (ea_cons (ee_var 3 (pv 3)) ea_nil)))))))
  (ess_one (es_expr (ee_call G_joined_codes (hr.mono (by decide)) rfl (ea_cons (ee_var 1 (pv 1)) (ea_cons (ee_var 2 (pv 2)) (ea_cons (ee_var 3 (pv 3)) (ea_cons (ee_un u_neg ee_int) ea_nil)))))))))))))))⟩)
  (fun a CA d oe pn hz hv ce => have hot := hot_suite hz hv; have hr := L2H.roomH_mark hr (some (.ref a)); ⟨_, (ess_cons (es_if (et_cmp (o_eq (hu_h hr)) (ee_var 0 (pv 0)) ee_int (nomark _))
  (ess_one (es_ret (EE.x (ee_and (ee_xi ce hz hv (pv 4) rfl T.m_isinstance rfl T.c_BadLot T.k_BadLot) (ee_and (ee_not (ee_xi ce hz hv (pv 4) rfl T.m_isinstance rfl T.c_NoSuchNumber T.k_NoSuchNumber)) (ee_one (ee_callH H__law_alike (hr.mono (by decide)) hot rfl (ea_cons (ee_xf ce (by decide) hz hv (pv 4)) (ea_cons (ee_var 3 (pv 3)) ea_nil)))))))))
  ess_nil)
  (ess_one (es_ret (EE.x (ee_and (ee_xi ce hz hv (pv 4) rfl T.m_isinstance rfl T.c_NoSuchNumber T.k_NoSuchNumber) (ee_and (ee_not (ee_xi ce hz hv (pv 4) rfl T.m_isinstance rfl T.c_BadLot T.k_BadLot)) (ee_one (ee_callH H__law_alike (hr.mono (by decide)) hot rfl (ea_cons (ee_xf ce (by decide) hz hv (pv 4)) (ea_cons (ee_var 3 (pv 3)) ea_nil))))))))))⟩))
  (ess_one (es_ret (EE.x ee_bl))))⟩
noncomputable def B_law : PEnv → Out := (sSeq (sSet 1 (eFn 2 F__law_digits (eCons (eFn 2 F__law_cell (eCons (eV 0) (eCons (eC (.int 0)) eNil))) (eCons (nl (eLst (eCons (eC (.int 6)) (eCons (eC (.int 6)) (eCons (eC (.int 12)) (eCons (eC (.int 40)) (eCons (eC (.int 997)) (eCons (eC (.int 64)) eNil)))))))) eNil))))
  (sSeq (sSet 2 (eOp addD (eC (.int 1)) (eOp ixD (xV 1) (eC (.int 0)))))
  (sSeq (sSet 3 (eOp addD (eC (.int 1)) (eOp modD (eOp ixD (xV 1) (eC (.int 1))) (eV 2))))
  (sSeq (sSet 4 (nl (cLc [13] (iSq (eFn 1 F__law_size_order (eCons (eV 2) eNil))) (gN 13) (tT (eOp leD (eFn 1 F__law_count (eCons (eV 13) eNil)) (eV 3))) (eV 13))))
  (sSeq (sIf (eNot (tT (eFn 2 F__law_alike (eCons (eFn 2 F_top_states (eCons (eV 2) (eCons (eV 3) eNil))) (eCons (eX lenD (xV 4)) eNil)))))
  (sRet (eC (.bl false)))
  sNext)
  (sSeq (sFor (iR1 (eCons (eX lenD (xV 4)) eNil)) (gN 5)
  (sSeq (sIf (eNot (tT (eFn 2 F__law_alike (eCons (nl (eLst (eCons (eFn 3 F_state_code (eCons (eV 2) (eCons (eV 3) (eCons (eOp ixD (xV 4) (eV 5)) eNil)))) (eCons (eFn 3 F_coded_state (eCons (eV 2) (eCons (eV 3) (eCons (eV 5) eNil)))) eNil)))) (eCons (nl (eLst (eCons (eV 5) (eCons (eOp ixD (xV 4) (eV 5)) eNil)))) eNil)))))
  (sRet (eC (.bl false)))
  sNext)
  (sSeq (sSet 19 (eOp modD (eOp addD (eOp ixD (xV 1) (eC (.int 4))) (eOp mulD (eC (.int 3)) (eV 5))) (eX lenD (xV 4))))
  (sSeq (sSet 20 (eIdx (xV 4) (eFn 2 F__law_top (eCons (eOp orD (eOp ixD (xV 4) (eV 5)) (eOp ixD (xV 4) (eV 19))) (eCons (eV 3) eNil)))))
  (sIf (eNot (tT (eFn 2 F__law_alike (eCons (nl (eLst (eCons (eFn 4 F_joined_codes (eCons (eV 2) (eCons (eV 3) (eCons (eV 5) (eCons (eV 19) eNil))))) (eCons (eFn 4 F_joined_codes (eCons (eV 2) (eCons (eV 3) (eCons (eV 19) (eCons (eV 5) eNil))))) eNil)))) (eCons (nl (eLst (eCons (eV 20) (eCons (eV 20) eNil)))) eNil)))))
  (sRet (eC (.bl false)))
  sNext)))))
  (sSeq (sSet 6 (eOp ixD (nl (eLst (eCons (eC (.int 40)) (eCons (eC (.int 7)) (eCons (eC (.int 12)) (eCons (eC (.int 33)) (eCons (eC (.int 20)) (eCons (eC (.int 9)) (eCons (eC (.int 40)) (eCons (eC (.int 16)) (eCons (eC (.int 25)) (eCons (eC (.int 8)) (eCons (eC (.int 30)) (eCons (eC (.int 10)) eNil)))))))))))))) (eOp ixD (xV 1) (eC (.int 2)))))
  (sSeq (sSet 7 (eOp addD (eC (.int 1)) (eOp modD (eOp ixD (xV 1) (eC (.int 3))) (eV 6))))
  (sSeq (sSet 8 (eF0 F__law_triangle))
  (sSeq (sSet 9 (eOp ixD (xV 8) (eV 6)))
  (sSeq (sSet 10 (eX sumD (nl (cLc [24] (iR1 (eCons (eOp addD (eV 7) (eC (.int 1))) eNil)) (gN 24) (fun _ => .ok true) (eOp ixD (xV 9) (eV 24))))))
  (sSeq (sSet 11 (eOp addD (nl (cLc [16] (iR1 (eCons (eC (.int 4)) eNil)) (gN 16) (fun _ => .ok true) (eFn 3 F__law_drawn_state (eCons (eFn 2 F__law_cell (eCons (eV 0) (eCons (eOp addD (eC (.int 1)) (eV 16)) eNil))) (eCons (eV 6) (eCons (eV 7) eNil)))))) (nl (eLst (eCons (eC (.int 0)) (eCons (eOp shlD (eOp subD (eOp shlD (eC (.int 1)) (eV 7)) (eC (.int 1))) (eOp subD (eV 6) (eV 7))) eNil))))))
  (sSeq (sSetN 12 (eLst eNil))
  (sSeq (sFor (iSq (eV 11)) (gN 13)
  (sSeq (sSet 21 (eFn 3 F_state_code (eCons (eV 6) (eCons (eV 7) (eCons (eV 13) eNil)))))
  (sSeq (sIf (eOr (eNot (tT (eFn 1 F__law_whole (eCons (eV 21) eNil)))) (eOr (tT (eOp neDD (eV 21) (eFn 3 F__law_code (eCons (eV 8) (eCons (eV 6) (eCons (eV 13) eNil)))))) (eNot (tT (eFn 2 F__law_alike (eCons (eFn 3 F_coded_state (eCons (eV 6) (eCons (eV 7) (eCons (eV 21) eNil)))) (eCons (eV 13) eNil)))))))
  (sRet (eC (.bl false)))
  sNext)
  (sSeq (sSet 22 (eFn 2 F__law_next (eCons (eV 6) (eCons (eV 13) eNil))))
  (sSeq (sIf (eAnd (tT (eOp notN (eV 22) (eC .non))) (eAnd (tT (eOp leD (eFn 1 F__law_count (eCons (eV 22) eNil)) (eV 7))) (eNot (tT (eFn 2 F__law_alike (eCons (eFn 3 F_state_code (eCons (eV 6) (eCons (eV 7) (eCons (eV 22) eNil)))) (eCons (eOp addD (eV 21) (eC (.int 1))) eNil)))))))
  (sRet (eC (.bl false)))
  sNext)
  (sApp 12 (eV 21)))))))
  (sSeq (sIf (eOr (tT (eOp neDD (eOp ixD (xV 12) (eC (.int 4))) (eC (.int 0)))) (tT (eOp neDD (eOp ixD (xV 12) (eC (.int 5))) (eOp subD (eV 10) (eC (.int 1))))))
  (sRet (eC (.bl false)))
  sNext)
  (sSeq (sSet 14 (eOp modD (eB intD (eCons (eFn 2 F__law_cell (eCons (eV 0) (eCons (eC (.int 6)) eNil))) eNil)) (eV 10)))
  (sSeq (sSet 15 (eFn 3 F_coded_state (eCons (eV 6) (eCons (eV 7) (eCons (eV 14) eNil)))))
  (sSeq (sIf (eOr (eNot (tT (eFn 1 F__law_whole (eCons (eV 15) eNil)))) (eOr (tT (eOp ltD (eV 15) (eC (.int 0)))) (eOr (tT (eOp geD (eV 15) (eOp shlD (eC (.int 1)) (eV 6)))) (eOr (tT (eOp gtD (eFn 1 F__law_count (eCons (eV 15) eNil)) (eV 7))) (tT (eOp neDD (eFn 3 F__law_code (eCons (eV 8) (eCons (eV 6) (eCons (eV 15) eNil)))) (eV 14)))))))
  (sRet (eC (.bl false)))
  sNext)
  (sSeq (sFor (iR1 (eCons (eC (.int 4)) eNil)) (gN 16)
  (sSeq (sSet 20 (eFn 2 F__law_top (eCons (eOp orD (eOp ixD (xV 11) (eV 16)) (eOp ixD (xV 11) (eOp modD (eOp addD (eV 16) (eC (.int 1))) (eC (.int 4))))) (eCons (eV 7) eNil))))
  (sSeq (sSet 23 (eFn 4 F_joined_codes (eCons (eV 6) (eCons (eV 7) (eCons (eOp ixD (xV 12) (eV 16)) (eCons (eOp ixD (xV 12) (eOp modD (eOp addD (eV 16) (eC (.int 1))) (eC (.int 4)))) eNil))))))
  (sIf (eOr (eNot (tT (eFn 1 F__law_whole (eCons (eV 23) eNil)))) (tT (eOp neDD (eV 23) (eFn 3 F__law_code (eCons (eV 8) (eCons (eV 6) (eCons (eV 20) eNil)))))))
  (sRet (eC (.bl false)))
  sNext))))
  (sSeq (sFor (iSq (nl (eLst (eCons (eC (.int 1)) (eCons (eC (.int 2)) (eCons (eC (.int 3)) (eCons (eOp addD (eOp ixD (xV 1) (eC (.int 4))) (eC (.int 1))) (eCons (eV 10) (eCons (eOp addD (eV 10) (eOp ixD (xV 1) (eC (.int 5)))) (eCons (eOp shlD (eC (.int 1)) (eOp ixD (xV 1) (eC (.int 5)))) (eCons (eOp addD (eOp shlD (eC (.int 1)) (eOp ixD (xV 1) (eC (.int 5)))) (eC (.int 1))) eNil))))))))))) (gN 17)
  (sIf (eNot (tT (eFn 1 F__law_bits_right (eCons (eV 17) eNil))))
  (sRet (eC (.bl false)))
  sNext))
  (sSeq (sFor (iSq (nl (eLst (eCons (eX negD (eC (.int 1))) (eCons (eV 10) (eCons (eOp addD (eV 10) (eOp ixD (xV 1) (eC (.int 4)))) (eCons (eC (.bl true)) eNil))))))) (gN 18)
  (sIf (eNot (tT (eX allD (nl (cLc [25] (iR2 (eCons (eC (.int 1)) (eCons (eC (.int 5)) eNil))) (gN 25) (fun _ => .ok true) (eFn 4 F__law_refused (eCons (eV 25) (eCons (eV 6) (eCons (eV 7) (eCons (eV 18) eNil))))))))))
  (sRet (eC (.bl false)))
  sNext))
  (sSeq (sIf (eAnd (tT (eOp ltD (eV 7) (eV 6))) (eNot (tT (eFn 4 F__law_refused (eCons (eC (.int 0)) (eCons (eV 6) (eCons (eV 7) (eCons (eOp subD (eOp shlD (eC (.int 1)) (eOp addD (eV 7) (eC (.int 1)))) (eC (.int 1))) eNil))))))))
  (sRet (eC (.bl false)))
  sNext)
  (sRet (eAndV (eFn 4 F__law_refused (eCons (eC (.int 0)) (eCons (eV 6) (eCons (eV 7) (eCons (eOp shlD (eC (.int 1)) (eV 6)) eNil))))) (eAndV (eFn 4 F__law_refused (eCons (eC (.int 0)) (eCons (eV 6) (eCons (eV 7) (eCons (eX negD (eC (.int 1))) eNil))))) (eFn 4 F__law_refused (eCons (eC (.int 0)) (eCons (eV 6) (eCons (eV 7) (eCons (eC (.bl true)) eNil))))))))))))))))))))))))))))))
noncomputable def F_law : List D → Rs D := runF 26 B_law
theorem ok_law {f : Addr} {fd : FuncData} (F : Fun K "law" "law" s_law f fd) (T : Tp K mg A_BoardError A_BadLot A_NoSuchNumber) (G__law_cell : FnP P w K mg base 1 "_law_cell" 2 F__law_cell) (G__law_digits : FnP P w K mg base 1 "_law_digits" 2 F__law_digits) (G__law_size_order : FnP P w K mg base 3 "_law_size_order" 1 F__law_size_order) (G__law_count : FnP P w K mg base 2 "_law_count" 1 F__law_count) (G_top_states : FnP P w K mg base 2 "top_states" 2 F_top_states) (G__law_alike : FnP P w K mg base 1 "_law_alike" 2 F__law_alike) (G_coded_state : FnP P w K mg base 12 "coded_state" 3 F_coded_state) (G_state_code : FnP P w K mg base 11 "state_code" 3 F_state_code) (G__law_top : FnP P w K mg base 2 "_law_top" 2 F__law_top) (G_joined_codes : FnP P w K mg base 13 "joined_codes" 4 F_joined_codes) (G__law_triangle : FnP P w K mg base 1 "_law_triangle" 0 F__law_triangle) (G__law_drawn_state : FnP P w K mg base 2 "_law_drawn_state" 3 F__law_drawn_state) (G__law_whole : FnP P w K mg base 1 "_law_whole" 1 F__law_whole) (G__law_code : FnP P w K mg base 2 "_law_code" 3 F__law_code) (G__law_next : FnP P w K mg base 2 "_law_next" 2 F__law_next) (G__law_bits_right : FnP P w K mg base 2 "_law_bits_right" 1 F__law_bits_right) (G__law_refused : FnP P w K mg base 14 "_law_refused" 4 F__law_refused) : FnOk P w K mg base (L2N.CX P w) 15 f fd ["script"] (spF K mg 1 F_law) :=
  fn_defO (N := ["script", "shape", "small", "few", "listed", "at", "width", "many", "rows", "line", "count", "states", "codes", "lot", "drawn", "given", "k", "number", "wrong", "two", "due", "code", "after", "told", "some", "way"]) (ps := ["script"]) F sc_law fun cdv A outer s H E hr => ⟨_, (ess_cons (es_set (i := 1) sc_law.nd rfl (by first | exact Or.inl rfl | exact Or.inr rfl) (ee_call G__law_digits (hr.mono (by decide)) rfl (ea_cons (ee_call G__law_cell (hr.mono (by decide)) rfl (ea_cons (ee_var 0 (pv 0)) (ea_cons ee_int ea_nil))) (ea_cons (EN.ee (en_lst (ea_cons ee_int (ea_cons ee_int (ea_cons ee_int (ea_cons ee_int (ea_cons ee_int (ea_cons ee_int ea_nil)))))))) ea_nil))))
  (ess_cons (es_set (i := 2) sc_law.nd rfl (by first | exact Or.inl rfl | exact Or.inr rfl) (ee_op o_add ee_int (ee_ix (ex_var 1 (pv 1)) ee_int (fun _ _ => rfl))))
  (ess_cons (es_set (i := 3) sc_law.nd rfl (by first | exact Or.inl rfl | exact Or.inr rfl) (ee_op o_add ee_int (ee_op o_mod (ee_ix (ex_var 1 (pv 1)) ee_int (fun _ _ => rfl)) (ee_var 2 (pv 2)))))
  (ess_cons (es_setLcF (i := 4) (own := [("lot", 13)]) rfl sc_law.nd rfl rfl (sw_true rfl rfl rfl (by decide +kernel)) (ei_seq (ee_call G__law_size_order (hr.mono (by decide)) rfl (ea_cons (ee_var 2 (pv 2)) ea_nil))) (blkOk_by (N := ["script", "shape", "small", "few", "listed", "at", "width", "many", "rows", "line", "count", "states", "codes", "lot", "drawn", "given", "k", "number", "wrong", "two", "due", "code", "after", "told", "some", "way"]) (sc := defScope s_law) (by decide +kernel)) ⟨fun _ _ _ _ _ => ⟨_, (egc_name (i := 13) sc_law.nd rfl (by first | exact Or.inl rfl | exact Or.inr rfl) (by decide))⟩, fun _ _ _ _ _ => ⟨_, (ets_one (et_cmp o_le (ee_call G__law_count (hr.mono (by decide)) rfl (ea_cons (ee_var 13 (pv 13)) ea_nil)) (ee_var 3 (pv 3)) (nomark _)))⟩, fun _ _ _ _ _ => ⟨_, (ee_var 13 (pv 13))⟩⟩)
  (ess_cons (es_if (et_not (et_val (ee_call G__law_alike (hr.mono (by decide)) rfl (ea_cons (ee_call G_top_states (hr.mono (by decide)) rfl (ea_cons (ee_var 2 (pv 2)) (ea_cons (ee_var 3 (pv 3)) ea_nil))) (ea_cons (ee_Bx b_len rfl T.m_len bt_len (ex_var 4 (pv 4))) ea_nil)))))
  (ess_one (es_ret (EE.x ee_bl)))
  ess_nil)
  (ess_cons (es_for rfl (ei_r1 rfl T.m_range (ea_cons (ee_Bx b_len rfl T.m_len bt_len (ex_var 4 (pv 4))) ea_nil)) (eg_name (i := 5) sc_law.nd rfl (by first | exact Or.inl rfl | exact Or.inr rfl))
  (ess_cons (es_if (et_not (et_val (ee_call G__law_alike (hr.mono (by decide)) rfl (ea_cons (EN.ee (en_lst (ea_cons (ee_call G_state_code (hr.mono (by decide)) rfl (ea_cons (ee_var 2 (pv 2)) (ea_cons (ee_var 3 (pv 3)) (ea_cons (ee_ix (ex_var 4 (pv 4)) (ee_var 5 (pv 5)) (fun _ _ => rfl)) ea_nil)))) (ea_cons (ee_call G_coded_state (hr.mono (by decide)) rfl (ea_cons (ee_var 2 (pv 2)) (ea_cons (ee_var 3 (pv 3)) (ea_cons (ee_var 5 (pv 5)) ea_nil)))) ea_nil)))) (ea_cons (EN.ee (en_lst (ea_cons (ee_var 5 (pv 5)) (ea_cons (ee_ix (ex_var 4 (pv 4)) (ee_var 5 (pv 5)) (fun _ _ => rfl)) ea_nil)))) ea_nil)))))
  (ess_one (es_ret (EE.x ee_bl)))
  ess_nil)
  (ess_cons (es_set (i := 19) sc_law.nd rfl (by first | exact Or.inl rfl | exact Or.inr rfl) (ee_op o_mod (ee_op o_add (ee_ix (ex_var 1 (pv 1)) ee_int (fun _ _ => rfl)) (ee_op o_mul ee_int (ee_var 5 (pv 5)))) (ee_Bx b_len rfl T.m_len bt_len (ex_var 4 (pv 4)))))
  (ess_cons (es_set (i := 20) sc_law.nd rfl (by first | exact Or.inl rfl | exact Or.inr rfl) (ee_indexN (ex_var 4 (pv 4)) (ee_call G__law_top (hr.mono (by decide)) rfl (ea_cons (ee_op o_or (ee_ix (ex_var 4 (pv 4)) (ee_var 5 (pv 5)) (fun _ _ => rfl)) (ee_ix (ex_var 4 (pv 4)) (ee_var 19 (pv 19)) (fun _ _ => rfl))) (ea_cons (ee_var 3 (pv 3)) ea_nil)))))
  (ess_one (es_if (et_not (et_val (ee_call G__law_alike (hr.mono (by decide)) rfl (ea_cons (EN.ee (en_lst (ea_cons (ee_call G_joined_codes (hr.mono (by decide)) rfl (ea_cons (ee_var 2 (pv 2)) (ea_cons (ee_var 3 (pv 3)) (ea_cons (ee_var 5 (pv 5)) (ea_cons (ee_var 19 (pv 19)) ea_nil))))) (ea_cons (ee_call G_joined_codes (hr.mono (by decide)) rfl (ea_cons (ee_var 2 (pv 2)) (ea_cons (ee_var 3 (pv 3)) (ea_cons (ee_var 19 (pv 19)) (ea_cons (ee_var 5 (pv 5)) ea_nil))))) ea_nil)))) (ea_cons (EN.ee (en_lst (ea_cons (ee_var 20 (pv 20)) (ea_cons (ee_var 20 (pv 20)) ea_nil)))) ea_nil)))))
  (ess_one (es_ret (EE.x ee_bl)))
  ess_nil))))))
  (ess_cons (es_set (i := 6) sc_law.nd rfl (by first | exact Or.inl rfl | exact Or.inr rfl) (ee_ix (EE.x (EN.ee (en_lst (ea_cons ee_int (ea_cons ee_int (ea_cons ee_int (ea_cons ee_int (ea_cons ee_int (ea_cons ee_int (ea_cons ee_int (ea_cons ee_int (ea_cons ee_int (ea_cons ee_int (ea_cons ee_int (ea_cons ee_int ea_nil))))))))))))))) (ee_ix (ex_var 1 (pv 1)) ee_int (fun _ _ => rfl)) (fun _ _ => rfl)))
  (ess_cons (es_set (i := 7) sc_law.nd rfl (by first | exact Or.inl rfl | exact Or.inr rfl) (ee_op o_add ee_int (ee_op o_mod (ee_ix (ex_var 1 (pv 1)) ee_int (fun _ _ => rfl)) (ee_var 6 (pv 6)))))
  (ess_cons (es_set (i := 8) sc_law.nd rfl (by first | exact Or.inl rfl | exact Or.inr rfl) (ee_call0 G__law_triangle (hr.mono (by decide)) rfl))
  (ess_cons (es_set (i := 9) sc_law.nd rfl (by first | exact Or.inl rfl | exact Or.inr rfl) (ee_ix (ex_var 8 (pv 8)) (ee_var 6 (pv 6)) (fun _ _ => rfl)))
  (ess_cons (es_set (i := 10) sc_law.nd rfl (by first | exact Or.inl rfl | exact Or.inr rfl) (ee_Bx (b_sum rfl) rfl T.m_sum bt_sum (EE.x (EN.ee (en_lc (own := [("some", 24)]) rfl sc_law.nd (ei_r1 rfl T.m_range (ea_cons (ee_op o_add (ee_var 7 (pv 7)) ee_int) ea_nil)) (blkOk_by (N := ["script", "shape", "small", "few", "listed", "at", "width", "many", "rows", "line", "count", "states", "codes", "lot", "drawn", "given", "k", "number", "wrong", "two", "due", "code", "after", "told", "some", "way"]) (sc := defScope s_law) (by decide +kernel)) ⟨fun _ _ _ _ _ => ⟨_, (egc_name (i := 24) sc_law.nd rfl (by first | exact Or.inl rfl | exact Or.inr rfl) (by decide))⟩, fun _ _ _ _ _ => ⟨_, ets_nil⟩, fun _ _ _ _ _ => ⟨_, (ee_ix (ex_var 9 (pv 9)) (ee_var 24 (pv 24)) (fun _ _ => rfl))⟩⟩)))))
  (ess_cons (es_set (i := 11) sc_law.nd rfl (by first | exact Or.inl rfl | exact Or.inr rfl) (ee_op o_add (EN.ee (en_lc (own := [("k", 16)]) rfl sc_law.nd (ei_r1 rfl T.m_range (ea_cons ee_int ea_nil)) (blkOk_by (N := ["script", "shape", "small", "few", "listed", "at", "width", "many", "rows", "line", "count", "states", "codes", "lot", "drawn", "given", "k", "number", "wrong", "two", "due", "code", "after", "told", "some", "way"]) (sc := defScope s_law) (by decide +kernel)) ⟨fun _ _ _ _ _ => ⟨_, (egc_name (i := 16) sc_law.nd rfl (by first | exact Or.inl rfl | exact Or.inr rfl) (by decide))⟩, fun _ _ _ _ _ => ⟨_, ets_nil⟩, fun _ _ _ _ _ => ⟨_, (ee_call G__law_drawn_state (hr.mono (by decide)) rfl (ea_cons (ee_call G__law_cell (hr.mono (by decide)) rfl (ea_cons (ee_var 0 (pv 0)) (ea_cons (ee_op o_add ee_int (ee_var 16 (pv 16))) ea_nil))) (ea_cons (ee_var 6 (pv 6)) (ea_cons (ee_var 7 (pv 7)) ea_nil))))⟩⟩)) (EN.ee (en_lst (ea_cons ee_int (ea_cons (ee_op o_shl (ee_op o_sub (ee_op o_shl ee_int (ee_var 7 (pv 7))) ee_int) (ee_op o_sub (ee_var 6 (pv 6)) (ee_var 7 (pv 7)))) ea_nil))))))
  (ess_cons (es_setN (i := 12) sc_law.nd rfl (by first | exact Or.inl rfl | exact Or.inr rfl) (en_lst ea_nil))
  (ess_cons (es_for rfl (ei_seq (ee_var 11 (pv 11))) (eg_name (i := 13) sc_law.nd rfl (by first | exact Or.inl rfl | exact Or.inr rfl))
  (ess_cons (es_set (i := 21) sc_law.nd rfl (by first | exact Or.inl rfl | exact Or.inr rfl) (ee_call G_state_code (hr.mono (by decide)) rfl (ea_cons (ee_var 6 (pv 6)) (ea_cons (ee_var 7 (pv 7)) (ea_cons (ee_var 13 (pv 13)) ea_nil)))))
  (ess_cons (es_if (EW.tt (ew_or (et_not (et_val (ee_call G__law_whole (hr.mono (by decide)) rfl (ea_cons (ee_var 21 (pv 21)) ea_nil)))) (ew_or (et_cmp (o_ne hr.units) (ee_var 21 (pv 21)) (ee_call G__law_code (hr.mono (by decide)) rfl (ea_cons (ee_var 8 (pv 8)) (ea_cons (ee_var 6 (pv 6)) (ea_cons (ee_var 13 (pv 13)) ea_nil)))) (nomark _)) (ew_or1 (et_not (et_val (ee_call G__law_alike (hr.mono (by decide)) rfl (ea_cons (ee_call G_coded_state (hr.mono (by decide)) rfl (ea_cons (ee_var 6 (pv 6)) (ea_cons (ee_var 7 (pv 7)) (ea_cons (ee_var 21 (pv 21)) ea_nil)))) (ea_cons (ee_var 13 (pv 13)) ea_nil)))))))))
  (ess_one (es_ret (EE.x ee_bl)))
  ess_nil)
  (ess_cons (es_set (i := 22) sc_law.nd rfl (by first | exact Or.inl rfl | exact Or.inr rfl) (ee_call G__law_next (hr.mono (by decide)) rfl (ea_cons (ee_var 6 (pv 6)) (ea_cons (ee_var 13 (pv 13)) ea_nil))))
  (ess_cons (es_if (EW.tt (ew_and (et_cmp o_isnot (ee_var 22 (pv 22)) ee_non (nomark _)) (ew_and (et_cmp o_le (ee_call G__law_count (hr.mono (by decide)) rfl (ea_cons (ee_var 22 (pv 22)) ea_nil)) (ee_var 7 (pv 7)) (nomark _)) (ew_and1 (et_not (et_val (ee_call G__law_alike (hr.mono (by decide)) rfl (ea_cons (ee_call G_state_code (hr.mono (by decide)) rfl (ea_cons (ee_var 6 (pv 6)) (ea_cons (ee_var 7 (pv 7)) (ea_cons (ee_var 22 (pv 22)) ea_nil)))) (ea_cons (ee_op o_add (ee_var 21 (pv 21)) ee_int) ea_nil)))))))))
  (ess_one (es_ret (EE.x ee_bl)))
  ess_nil)
  (ess_one (es_appN (i := 12) (pv 12) (ee_var 21 (pv 21)))))))))
  (ess_cons (es_if (EW.tt (ew_or (et_cmp (o_ne hr.units) (ee_ix (ex_var 12 (pv 12)) ee_int (fun _ _ => rfl)) ee_int (nomark _)) (ew_or1 (et_cmp (o_ne hr.units) (ee_ix (ex_var 12 (pv 12)) ee_int (fun _ _ => rfl)) (ee_op o_sub (ee_var 10 (pv 10)) ee_int) (nomark _)))))
  (ess_one (es_ret (EE.x ee_bl)))
  ess_nil)
  (ess_cons (es_set (i := 14) sc_law.nd rfl (by first | exact Or.inl rfl | exact Or.inr rfl) (ee_op o_mod (ee_Ty b_int rfl T.m_int bt_int (ea_cons (ee_call G__law_cell (hr.mono (by decide)) rfl (ea_cons (ee_var 0 (pv 0)) (ea_cons ee_int ea_nil))) ea_nil)) (ee_var 10 (pv 10))))
  (ess_cons (es_set (i := 15) sc_law.nd rfl (by first | exact Or.inl rfl | exact Or.inr rfl) (ee_call G_coded_state (hr.mono (by decide)) rfl (ea_cons (ee_var 6 (pv 6)) (ea_cons (ee_var 7 (pv 7)) (ea_cons (ee_var 14 (pv 14)) ea_nil)))))
  (ess_cons (es_if (EW.tt (ew_or (et_not (et_val (ee_call G__law_whole (hr.mono (by decide)) rfl (ea_cons (ee_var 15 (pv 15)) ea_nil)))) (ew_or (et_cmp o_lt (ee_var 15 (pv 15)) ee_int (nomark _)) (ew_or (et_cmp o_ge (ee_var 15 (pv 15)) (ee_op o_shl ee_int (ee_var 6 (pv 6))) (nomark _)) (ew_or (et_cmp o_gt (ee_call G__law_count (hr.mono (by decide)) rfl (ea_cons (ee_var 15 (pv 15)) ea_nil)) (ee_var 7 (pv 7)) (nomark _)) (ew_or1 (et_cmp (o_ne hr.units) (ee_call G__law_code (hr.mono (by decide)) rfl (ea_cons (ee_var 8 (pv 8)) (ea_cons (ee_var 6 (pv 6)) (ea_cons (ee_var 15 (pv 15)) ea_nil)))) (ee_var 14 (pv 14)) (nomark _))))))))
  (ess_one (es_ret (EE.x ee_bl)))
  ess_nil)
  (ess_cons (es_for rfl (ei_r1 rfl T.m_range (ea_cons ee_int ea_nil)) (eg_name (i := 16) sc_law.nd rfl (by first | exact Or.inl rfl | exact Or.inr rfl))
  (ess_cons (es_set (i := 20) sc_law.nd rfl (by first | exact Or.inl rfl | exact Or.inr rfl) (ee_call G__law_top (hr.mono (by decide)) rfl (ea_cons (ee_op o_or (ee_ix (ex_var 11 (pv 11)) (ee_var 16 (pv 16)) (fun _ _ => rfl)) (ee_ix (ex_var 11 (pv 11)) (ee_op o_mod (ee_op o_add (ee_var 16 (pv 16)) ee_int) ee_int) (fun _ _ => rfl))) (ea_cons (ee_var 7 (pv 7)) ea_nil))))
  (ess_cons (es_set (i := 23) sc_law.nd rfl (by first | exact Or.inl rfl | exact Or.inr rfl) (ee_call G_joined_codes (hr.mono (by decide)) rfl (ea_cons (ee_var 6 (pv 6)) (ea_cons (ee_var 7 (pv 7)) (ea_cons (ee_ix (ex_var 12 (pv 12)) (ee_var 16 (pv 16)) (fun _ _ => rfl)) (ea_cons (ee_ix (ex_var 12 (pv 12)) (ee_op o_mod (ee_op o_add (ee_var 16 (pv 16)) ee_int) ee_int) (fun _ _ => rfl)) ea_nil))))))
  (ess_one (es_if (EW.tt (ew_or (et_not (et_val (ee_call G__law_whole (hr.mono (by decide)) rfl (ea_cons (ee_var 23 (pv 23)) ea_nil)))) (ew_or1 (et_cmp (o_ne hr.units) (ee_var 23 (pv 23)) (ee_call G__law_code (hr.mono (by decide)) rfl (ea_cons (ee_var 8 (pv 8)) (ea_cons (ee_var 6 (pv 6)) (ea_cons (ee_var 20 (pv 20)) ea_nil)))) (nomark _)))))
  (ess_one (es_ret (EE.x ee_bl)))
  ess_nil)))))
  (ess_cons (es_for rfl (ei_seq (EN.ee (en_lst (ea_cons ee_int (ea_cons ee_int (ea_cons ee_int (ea_cons (ee_op o_add (ee_ix (ex_var 1 (pv 1)) ee_int (fun _ _ => rfl)) ee_int) (ea_cons (ee_var 10 (pv 10)) (ea_cons (ee_op o_add (ee_var 10 (pv 10)) (ee_ix (ex_var 1 (pv 1)) ee_int (fun _ _ => rfl))) (ea_cons (ee_op o_shl ee_int (ee_ix (ex_var 1 (pv 1)) ee_int (fun _ _ => rfl))) (ea_cons (ee_op o_add (ee_op o_shl ee_int (ee_ix (ex_var 1 (pv 1)) ee_int (fun _ _ => rfl))) ee_int) ea_nil))))))))))) (eg_name (i := 17) sc_law.nd rfl (by first | exact Or.inl rfl | exact Or.inr rfl))
  (ess_one (es_if (et_not (et_val (ee_call G__law_bits_right (hr.mono (by decide)) rfl (ea_cons (ee_var 17 (pv 17)) ea_nil))))
  (ess_one (es_ret (EE.x ee_bl)))
  ess_nil)))
  (ess_cons (es_for rfl (ei_seq (EN.ee (en_lst (ea_cons (ee_un u_neg ee_int) (ea_cons (ee_var 10 (pv 10)) (ea_cons (ee_op o_add (ee_var 10 (pv 10)) (ee_ix (ex_var 1 (pv 1)) ee_int (fun _ _ => rfl))) (ea_cons ee_bl ea_nil))))))) (eg_name (i := 18) sc_law.nd rfl (by first | exact Or.inl rfl | exact Or.inr rfl))
  (ess_one (es_if (et_not (et_val (ee_Bx (b_all rfl) rfl T.m_all bt_all (EE.x (EN.ee (en_lc (own := [("way", 25)]) rfl sc_law.nd (ei_r2 rfl T.m_range (ea_cons ee_int (ea_cons ee_int ea_nil))) (blkOk_by (N := ["script", "shape", "small", "few", "listed", "at", "width", "many", "rows", "line", "count", "states", "codes", "lot", "drawn", "given", "k", "number", "wrong", "two", "due", "code", "after", "told", "some", "way"]) (sc := defScope s_law) (by decide +kernel)) ⟨fun _ _ _ _ _ => ⟨_, (egc_name (i := 25) sc_law.nd rfl (by first | exact Or.inl rfl | exact Or.inr rfl) (by decide))⟩, fun _ _ _ _ _ => ⟨_, ets_nil⟩, fun _ _ _ _ _ => ⟨_, (ee_call G__law_refused (hr.mono (by decide)) rfl (ea_cons (ee_var 25 (pv 25)) (ea_cons (ee_var 6 (pv 6)) (ea_cons (ee_var 7 (pv 7)) (ea_cons (ee_var 18 (pv 18)) ea_nil)))))⟩⟩))))))
  (ess_one (es_ret (EE.x ee_bl)))
  ess_nil)))
  (ess_cons (es_if (EW.tt (ew_and (et_cmp o_lt (ee_var 7 (pv 7)) (ee_var 6 (pv 6)) (nomark _)) (ew_and1 (et_not (et_val (ee_call G__law_refused (hr.mono (by decide)) rfl (ea_cons ee_int (ea_cons (ee_var 6 (pv 6)) (ea_cons (ee_var 7 (pv 7)) (ea_cons (ee_op o_sub (ee_op o_shl ee_int (ee_op o_add (ee_var 7 (pv 7)) ee_int)) ee_int) ea_nil))))))))))
  (ess_one (es_ret (EE.x ee_bl)))
  ess_nil)
  (ess_one (es_ret (EE.x (ee_and (ee_call G__law_refused (hr.mono (by decide)) rfl (ea_cons ee_int (ea_cons (ee_var 6 (pv 6)) (ea_cons (ee_var 7 (pv 7)) (ea_cons (ee_op o_shl ee_int (ee_var 6 (pv 6))) ea_nil))))) (ee_and (ee_call G__law_refused (hr.mono (by decide)) rfl (ea_cons ee_int (ea_cons (ee_var 6 (pv 6)) (ea_cons (ee_var 7 (pv 7)) (ea_cons (ee_un u_neg ee_int) ea_nil))))) (ee_one (ee_call G__law_refused (hr.mono (by decide)) rfl (ea_cons ee_int (ea_cons (ee_var 6 (pv 6)) (ea_cons (ee_var 7 (pv 7)) (ea_cons ee_bl ea_nil)))))))))))))))))))))))))))))))))⟩
end
end K80

/-! k80, plain: ways to choose, codes of lots -/
namespace K80
open PL PL.M
/-! ### ways to choose -/
def ch : Nat → Nat → Nat
  | _, 0 => 1
  | 0, _ + 1 => 0
  | n + 1, k + 1 => ch n k + ch n (k + 1)
theorem ch_0 (n : Nat) : ch n 0 = 1 := by cases n <;> rfl
theorem ch_s (n k : Nat) : ch (n + 1) (k + 1) = ch n k + ch n (k + 1) := rfl
theorem ch_z : ∀ (n k : Nat), n < k → ch n k = 0
  | 0, k + 1, _ => rfl
  | n + 1, k + 1, h => by rw [ch_s, ch_z n k (by omega), ch_z n (k + 1) (by omega)]
theorem ch_mono1 (n k : Nat) : ch n k ≤ ch (n + 1) k := by
  cases k with
  | zero => rw [ch_0, ch_0]; exact Nat.le_refl _
  | succ k => rw [ch_s]; omega
theorem ch_mono {a b : Nat} (h : a ≤ b) (k : Nat) : ch a k ≤ ch b k := by
  obtain ⟨d, rfl⟩ := Nat.exists_eq_add_of_le h
  induction d with
  | zero => exact Nat.le_refl _
  | succ d ih => exact Nat.le_trans (ih (by omega)) (ch_mono1 _ _)
theorem ch_pos : ∀ {n k : Nat}, k ≤ n → 0 < ch n k
  | n, 0, _ => by rw [ch_0]; omega
  | n + 1, k + 1, h => by rw [ch_s]; have := ch_pos (n := n) (k := k) (by omega); omega
/-- from one to the next -/
theorem ch_step : ∀ n k : Nat, ch n k * (n - k) = ch n (k + 1) * (k + 1)
  | 0, k => by rw [ch_z 0 (k + 1) (by omega)]; simp
  | n + 1, 0 => by
    have ih := ch_step n 0
    rw [ch_0] at ih ⊢
    rw [ch_s, ch_0]
    simp at ih ⊢
    omega
  | n + 1, k + 1 => by
    have i1 := ch_step n k
    have i2 := ch_step n (k + 1)
    rw [ch_s, ch_s n (k + 1)]
    rcases Nat.lt_or_ge n (k + 1) with h | h
    · rw [show n + 1 - (k + 1) = 0 by omega]
      rw [ch_z n (k + 1) h, ch_z n (k + 1 + 1) (by omega)]; simp
    · rw [show n + 1 - (k + 1) = n - k by omega]
      have e : n - k = (n - (k + 1)) + 1 := by omega
      have e2 : ch n (k + 1) * (n - k) = ch n (k + 1) * (n - (k + 1)) + ch n (k + 1) := by rw [e]; exact Nat.mul_succ _ _
      have e3 : ch n (k + 1) * (k + 1 + 1) = ch n (k + 1) * (k + 1) + ch n (k + 1) := Nat.mul_succ _ _
      rw [Nat.add_mul, i1, e2, i2, Nat.add_mul, e3]
      omega
theorem ch_le_two (n k : Nat) : ch n k ≤ 2 ^ n := by
  induction n generalizing k with
  | zero => cases k with
    | zero => decide
    | succ k => rw [ch_z 0 (k + 1) (by omega)]; decide
  | succ n ih => cases k with
    | zero => rw [ch_0]; exact Nat.one_le_two_pow
    | succ k => rw [ch_s, Nat.pow_succ]; have := ih k; have := ih (k + 1); omega
/-! ### bits -/
/-- how many bits below b -/
def cnt (n : Nat) : Nat → Nat
  | 0 => 0
  | b + 1 => cnt n b + if n.testBit b then 1 else 0
/-- the code of a lot among those of its size -/
def cd (n : Nat) : Nat → Nat
  | 0 => 0
  | b + 1 => cd n b + if n.testBit b then ch b (cnt n b + 1) else 0
theorem cnt_1 {n b : Nat} (h : n.testBit b = true) : cnt n (b + 1) = cnt n b + 1 := by unfold cnt; rw [if_pos h]; cases b <;> rfl
theorem cnt_0 {n b : Nat} (h : n.testBit b = false) : cnt n (b + 1) = cnt n b := by rw [cnt, h]; rfl
theorem cd_1 {n b : Nat} (h : n.testBit b = true) : cd n (b + 1) = cd n b + ch b (cnt n b + 1) := by rw [cd, h]; rfl
theorem cd_0 {n b : Nat} (h : n.testBit b = false) : cd n (b + 1) = cd n b := by rw [cd, h]; rfl
theorem cnt_its (n : Nat) : ∀ b, (its b n).length = cnt n b
  | 0 => rfl
  | b + 1 => by
    have ih := cnt_its n b
    unfold its at ih ⊢
    rw [List.range_succ, List.filter_append, List.length_append, ih]
    cases h : n.testBit b with
    | true => rw [cnt_1 h]; simp [h]
    | false => rw [cnt_0 h]; simp [h]
theorem cnt_le (n b : Nat) : cnt n b ≤ b := by rw [← cnt_its]; exact its_len b n
theorem cd_lt (n : Nat) : ∀ b, cd n b < ch b (cnt n b)
  | 0 => Nat.zero_lt_one
  | b + 1 => by
    have ih := cd_lt n b
    cases h : n.testBit b with
    | true => rw [cnt_1 h, cd_1 h, ch_s]; omega
    | false => rw [cnt_0 h, cd_0 h]; have := ch_mono1 b (cnt n b); omega
theorem same_bits {n m : Nat} : ∀ b, (∀ k, k < b → n.testBit k = m.testBit k) → cnt n b = cnt m b ∧ cd n b = cd m b
  | 0, _ => ⟨rfl, rfl⟩
  | b + 1, h => by
    obtain ⟨h1, h2⟩ := same_bits b fun k hk => h k (by omega)
    have hb := h b (by omega)
    unfold cnt cd
    rw [h1, h2, hb]
    exact ⟨rfl, rfl⟩
theorem no_bits {n : Nat} : ∀ b, (∀ k, k < b → n.testBit k = false) → cnt n b = 0 ∧ cd n b = 0
  | 0, _ => ⟨rfl, rfl⟩
  | b + 1, h => by
    obtain ⟨h1, h2⟩ := no_bits b fun k hk => h k (by omega)
    rw [cnt_0 (h b (by omega)), cd_0 (h b (by omega))]
    exact ⟨h1, h2⟩
/-- the bits from a on add the same to both -/
theorem more_bits {n m a : Nat} (d : Nat) (hc : cnt n a = cnt m a) (hd : cd n a = cd m a + d) : ∀ b, a ≤ b → (∀ k, a ≤ k → k < b → n.testBit k = m.testBit k) → cnt n b = cnt m b ∧ cd n b = cd m b + d := by
  intro b hb
  obtain ⟨e, rfl⟩ := Nat.exists_eq_add_of_le hb
  clear hb
  induction e with
  | zero => intro _; exact ⟨hc, hd⟩
  | succ e ih =>
    intro h
    obtain ⟨h1, h2⟩ := ih fun k h3 h4 => h k h3 (by omega)
    have hb := h (a + e) (by omega) (by omega)
    rw [← Nat.add_assoc]
    cases hm : m.testBit (a + e) with
    | true => rw [cnt_1 hm, cd_1 hm, cnt_1 (hb.trans hm), cd_1 (hb.trans hm), h1, h2]; omega
    | false => rw [cnt_0 hm, cd_0 hm, cnt_0 (hb.trans hm), cd_0 (hb.trans hm)]; exact ⟨h1, h2⟩
/-- a code has one lot -/
theorem cd_inj {n m : Nat} : ∀ b, cnt n b = cnt m b → cd n b = cd m b → ∀ k, k < b → n.testBit k = m.testBit k
  | 0, _, _, _, hk => absurd hk (Nat.not_lt_zero _)
  | b + 1, hc, hd, k, hk => by
    have l1 := cd_lt n b
    have l2 := cd_lt m b
    have go : cnt n b = cnt m b → cd n b = cd m b → n.testBit b = m.testBit b → n.testBit k = m.testBit k := fun h1 h2 h3 => by
      by_cases e : k = b
      · rw [e]; exact h3
      · exact cd_inj b h1 h2 k (by omega)
    cases hn : n.testBit b with
    | true =>
      cases hm : m.testBit b with
      | true =>
        rw [cnt_1 hn, cnt_1 hm] at hc
        have hc' : cnt n b = cnt m b := by omega
        rw [cd_1 hn, cd_1 hm, hc'] at hd
        exact go hc' (by omega) (hn.trans hm.symm)
      | false =>
        rw [cnt_1 hn, cnt_0 hm] at hc
        rw [cd_1 hn, cd_0 hm, hc] at hd
        omega
    | false =>
      cases hm : m.testBit b with
      | true =>
        rw [cnt_0 hn, cnt_1 hm] at hc
        rw [cd_0 hn, cd_1 hm, ← hc] at hd
        omega
      | false =>
        rw [cnt_0 hn, cnt_0 hm] at hc
        rw [cd_0 hn, cd_0 hm] at hd
        exact go hc hd (hn.trans hm.symm)
theorem eq_of_bits {n m b : Nat} (hn : n < 2 ^ b) (hm : m < 2 ^ b) (h : ∀ k, k < b → n.testBit k = m.testBit k) : n = m :=
  Nat.eq_of_testBit_eq fun k => by
    rcases Nat.lt_or_ge k b with z | z
    · exact h k z
    · rw [Nat.testBit_lt_two_pow (Nat.lt_of_lt_of_le hn (Nat.pow_le_pow_right (by omega) z)), Nat.testBit_lt_two_pow (Nat.lt_of_lt_of_le hm (Nat.pow_le_pow_right (by omega) z))]
/-- the ways with fewer things -/
def base (w : Nat) : Nat → Nat
  | 0 => 0
  | s + 1 => base w s + ch w s
theorem base_mono {w a b : Nat} (h : a ≤ b) : base w a ≤ base w b := by
  obtain ⟨d, rfl⟩ := Nat.exists_eq_add_of_le h
  induction d with
  | zero => exact Nat.le_refl _
  | succ d ih => exact Nat.le_trans (ih (by omega)) (Nat.le_add_right _ _)
def code (w n : Nat) : Nat := base w (cnt n w) + cd n w
theorem code_lt {w n many : Nat} (h : cnt n w ≤ many) : code w n < base w (many + 1) := by
  have h1 := cd_lt n w
  have h2 := base_mono (w := w) (show cnt n w + 1 ≤ many + 1 by omega)
  unfold code
  rw [base] at h2
  omega
theorem base_inj {w a b x y : Nat} (hx : x < ch w a) (hy : y < ch w b) (h : base w a + x = base w b + y) : a = b ∧ x = y := by
  rcases Nat.lt_trichotomy a b with z | z | z
  · have := base_mono (w := w) (show a + 1 ≤ b by omega); rw [base] at this; omega
  · subst z; exact ⟨rfl, by omega⟩
  · have := base_mono (w := w) (show b + 1 ≤ a by omega); rw [base] at this; omega
theorem code_inj {w n m : Nat} (hn : n < 2 ^ w) (hm : m < 2 ^ w) (h : code w n = code w m) : n = m := by
  obtain ⟨h1, h2⟩ := base_inj (cd_lt n w) (cd_lt m w) h
  exact eq_of_bits hn hm (cd_inj w h1 h2)
/-! ### decoding -/
theorem bit_or (a i k : Nat) : (a ||| 2 ^ i).testBit k = (a.testBit k || decide (i = k)) := by
  rw [Nat.testBit_or, Nat.testBit_two_pow]
/-- a lot below an item, and the item -/
theorem put_top {m i b : Nat} (hm : m < 2 ^ i) (hib : i < b) : cnt (m ||| 2 ^ i) b = cnt m i + 1 ∧ cd (m ||| 2 ^ i) b = cd m i + ch i (cnt m i + 1) := by
  obtain ⟨h1, h2⟩ := same_bits (n := m ||| 2 ^ i) (m := m) i fun k hk => by rw [bit_or]; simp [show ¬ i = k by omega]
  have hb : (m ||| 2 ^ i).testBit i = true := by rw [bit_or]; simp
  have hz : ∀ k, i + 1 ≤ k → (m ||| 2 ^ i).testBit k = false := fun k hk => by
    rw [bit_or, Nat.testBit_lt_two_pow (Nat.lt_of_lt_of_le hm (Nat.pow_le_pow_right (by omega) (by omega)))]; simp [show ¬ i = k by omega]
  obtain ⟨d, rfl⟩ := Nat.exists_eq_add_of_le (show i + 1 ≤ b from hib)
  clear hib
  induction d with
  | zero => rw [Nat.add_zero, cnt_1 hb, cd_1 hb, h1, h2]; exact ⟨rfl, rfl⟩
  | succ d ih => rw [← Nat.add_assoc, cnt_0 (hz _ (by omega)), cd_0 (hz _ (by omega))]; exact ih
theorem or_lt {m i b : Nat} (hm : m < 2 ^ i) (hib : i < b) : m ||| 2 ^ i < 2 ^ b :=
  Nat.or_lt_two_pow (Nat.lt_of_lt_of_le hm (Nat.pow_le_pow_right (by omega) (by omega))) (Nat.pow_lt_pow_right (by omega) hib)
/-- how far the decoding is: whatever lot of the items left below b has the code left, together with the lot so far it is the lot looked for -/
def Dec (w some c lot rest left b : Nat) : Prop := b ≤ w ∧ lot < 2 ^ w ∧ rest < ch b left ∧ ∀ m, m < 2 ^ b → cnt m b = left → cd m b = rest → lot ||| m < 2 ^ w ∧ cnt (lot ||| m) w = some ∧ cd (lot ||| m) w = c
theorem dec_start {w some c : Nat} (h : c < ch w some) : Dec w some c 0 c some w :=
  ⟨Nat.le_refl _, Nat.two_pow_pos w, h, fun m hm h1 h2 => by rw [Nat.zero_or]; exact ⟨hm, h1, h2⟩⟩
theorem dec_step {w some c lot rest left b i : Nat} (h : Dec w some c lot rest (left + 1) b) (hi : i < b) (h1 : ch i (left + 1) ≤ rest) (h2 : rest < ch (i + 1) (left + 1)) : Dec w some c (lot ||| 2 ^ i) (rest - ch i (left + 1)) left i := by
  obtain ⟨hb, hl, hr, hm⟩ := h
  refine ⟨by omega, Nat.or_lt_two_pow hl (Nat.pow_lt_pow_right (by omega) (by omega)), by rw [ch_s] at h2; omega, fun m hm' hc hd => ?_⟩
  obtain ⟨e1, e2⟩ := put_top hm' hi
  have := hm (m ||| 2 ^ i) (or_lt hm' hi) (by rw [e1, hc]) (by rw [e2, hd, hc]; omega)
  rwa [Nat.or_comm m, ← Nat.or_assoc] at this
theorem dec_end {w some c lot rest b : Nat} (h : Dec w some c lot rest 0 b) : lot < 2 ^ w ∧ cnt lot w = some ∧ cd lot w = c := by
  obtain ⟨hb, hl, hr, hm⟩ := h
  rw [ch_0] at hr
  obtain ⟨z1, z2⟩ := no_bits (n := 0) b fun k _ => Nat.zero_testBit k
  have := hm 0 (Nat.two_pow_pos b) z1 (by rw [z2]; omega)
  rwa [Nat.or_zero] at this
/-! ### the next lot -/
/-- where every item below has the next one in, too, the code is the last -/
theorem run_up {n b : Nat} (h : ∀ k, k + 1 < b → n.testBit k = true → n.testBit (k + 1) = true) : ∀ a, a ≤ b → (cnt n a = 0 ∨ ∃ k, a = k + 1 ∧ n.testBit k = true) ∧ cd n a + 1 = ch a (cnt n a)
  | 0, _ => ⟨.inl rfl, rfl⟩
  | a + 1, ha => by
    obtain ⟨h1, h2⟩ := run_up h a (by omega)
    cases hb : n.testBit a with
    | true => exact ⟨.inr ⟨a, rfl, hb⟩, by rw [cnt_1 hb, cd_1 hb, ch_s]; omega⟩
    | false =>
      rcases h1 with h1 | ⟨k, rfl, hk⟩
      · refine ⟨.inl (by rw [cnt_0 hb]; exact h1), ?_⟩
        rw [cnt_0 hb, cd_0 hb, h1, ch_0]; rw [h1, ch_0] at h2; exact h2
      · rw [h k (by omega) hk] at hb; cases hb
/-- the next lot: the item steps up, the ones below it fall to the ground -/
theorem next_up {w n m i a : Nat} (hi : i + 1 < w) (hb : n.testBit i = true) (hb1 : n.testBit (i + 1) = false) (ha : cnt n i = a) (hrun : ∀ k, k < i → n.testBit k = true → n.testBit (k + 1) = true)
    (hm : ∀ k, m.testBit k = (decide (k < a) || decide (k = i + 1) || (decide (i + 1 < k) && n.testBit k))) : cnt m w = cnt n w ∧ cd m w = cd n w + 1 := by
  have hai : a ≤ i := by rw [← ha]; exact cnt_le n i
  have low : ∀ b, b ≤ a → cnt m b = b ∧ cd m b = 0 := by
    intro b
    induction b with
    | zero => intro _; exact ⟨rfl, rfl⟩
    | succ b ih =>
      intro hba
      obtain ⟨e1, e2⟩ := ih (by omega)
      have : m.testBit b = true := by rw [hm]; simp [show b < a by omega]
      rw [cnt_1 this, cd_1 this, e1, e2, ch_z b (b + 1) (by omega)]
      exact ⟨rfl, rfl⟩
  have mid : ∀ d, a + d ≤ i + 1 → cnt m (a + d) = a ∧ cd m (a + d) = 0 := by
    intro d
    induction d with
    | zero => intro _; exact low a (Nat.le_refl _)
    | succ d ih =>
      intro hd
      have : m.testBit (a + d) = false := by rw [hm]; simp; omega
      rw [← Nat.add_assoc, cnt_0 this, cd_0 this]
      exact ih (by omega)
  obtain ⟨m1, m2⟩ := mid (i + 1 - a) (by omega)
  rw [show a + (i + 1 - a) = i + 1 by omega] at m1 m2
  have hbm : m.testBit (i + 1) = true := by rw [hm]; simp
  have r := (run_up (n := n) (b := i + 1) (fun k hk ht => hrun k (by omega) ht) (i + 1) (Nat.le_refl _)).2
  rw [cnt_1 hb, ha] at r
  refine more_bits (a := i + 2) 1 ?_ ?_ w (by omega) fun k h1 h2 => ?_
  · rw [cnt_1 hbm, m1, cnt_0 hb1, cnt_1 hb, ha]
  · rw [cd_1 hbm, m1, m2, cd_0 hb1]; omega
  · rw [hm]; simp [show ¬ k < a by omega, show ¬ k = i + 1 by omega, show i + 1 < k by omega]
/-- the lowest items -/
theorem low_bits (s k : Nat) : (2 ^ s - 1).testBit k = decide (k < s) := Nat.testBit_two_pow_sub_one s k
theorem low_code {w s : Nat} (h : s ≤ w) : cnt (2 ^ s - 1) w = s ∧ cd (2 ^ s - 1) w = 0 := by
  have low : ∀ b, b ≤ s → cnt (2 ^ s - 1) b = b ∧ cd (2 ^ s - 1) b = 0 := by
    intro b
    induction b with
    | zero => intro _; exact ⟨rfl, rfl⟩
    | succ b ih =>
      intro hba
      obtain ⟨e1, e2⟩ := ih (by omega)
      have : (2 ^ s - 1).testBit b = true := by rw [low_bits]; simp; omega
      rw [cnt_1 this, cd_1 this, e1, e2, ch_z b (b + 1) (by omega)]
      exact ⟨rfl, rfl⟩
  obtain ⟨d, rfl⟩ := Nat.exists_eq_add_of_le h
  clear h
  induction d with
  | zero => exact low s (Nat.le_refl _)
  | succ d ih =>
    have : (2 ^ s - 1).testBit (s + d) = false := by rw [low_bits]; simp
    rw [← Nat.add_assoc, cnt_0 this, cd_0 this]
    exact ih
/-- behind the last lot of a size comes the first of the next -/
theorem next_size {w n : Nat} (hs : cnt n w < w) (hrun : ∀ k, k + 1 < w → n.testBit k = true → n.testBit (k + 1) = true) : code w (2 ^ (cnt n w + 1) - 1) = code w n + 1 ∧ cnt (2 ^ (cnt n w + 1) - 1) w = cnt n w + 1 := by
  obtain ⟨e1, e2⟩ := low_code (w := w) (s := cnt n w + 1) hs
  have r := (run_up hrun w (Nat.le_refl _)).2
  refine ⟨?_, e1⟩
  unfold code
  rw [e1, e2, base]
  omega
/-- the last of all -/
theorem last_code {w n : Nat} (hrun : ∀ k, k + 1 < w → n.testBit k = true → n.testBit (k + 1) = true) : code w n + 1 = base w (cnt n w + 1) := by
  have r := (run_up hrun w (Nat.le_refl _)).2
  unfold code
  rw [base]
  omega
/-! ### sums over items -/
/-- the sum over the items that comes to cd -/
theorem cd_its (n : Nat) : ∀ b, ((List.range (its b n).length).map fun at_ => ch ((its b n)[at_]?.getD 0) (at_ + 1)).sum = cd n b
  | 0 => rfl
  | b + 1 => by
    have ih := cd_its n b
    have hc := cnt_its n b
    have e : its (b + 1) n = if n.testBit b then its b n ++ [b] else its b n := by
      unfold its; rw [List.range_succ, List.filter_append]
      cases h : n.testBit b <;> simp [h]
    cases h : n.testBit b with
    | true =>
      rw [e, h, if_pos rfl, cd_1 h, List.length_append, List.length_singleton, List.range_succ, List.map_append, List.sum_append]
      congr 1
      · rw [← ih]
        congr 1
        apply List.map_congr_left
        intro i hi
        rw [List.getElem?_append_left (List.mem_range.mp hi)]
      · simp [hc]
    | false => rw [e, h, cd_0 h]; simpa using ih
end K80

/-! k80: what the functions compute -/
namespace K80
open PySem PL PL.M
@[simp] theorem s_raise (C : Str) (n : Nat) (F : List D → Rs (List (Str × D))) (fr : PEnv → Rs (List D)) (ρ : PEnv) : sRaise C n F fr ρ = sB (fr ρ) ρ fun ds => if ds.length = n ∧ n ≤ 1000 then (match F ds with | .ok (f :: fs) => .ex C (f :: fs) ρ | _ => .bad) else .bad := rfl
theorem sumD_nats (l : List Nat) : sumD (.lst (nats l)) = some (.int (l.sum : Nat)) := by
  have e : nats l = (l.map fun (k : Nat) => (k : Int)).map D.int := by unfold nats; rw [List.map_map]; rfl
  rw [e, sumD_ints]
  congr 2
  induction l with
  | nil => rfl
  | cons a l ih => rw [List.map_cons, List.sum_cons, List.sum_cons, ih (by unfold nats; rw [List.map_map]; rfl)]; rfl
theorem rgO_s {n : Nat} (h : n + 1 ≤ 1000000000) : rgO 0 ((n : Int) + 1) = .ok (rgD 0 (n + 1)) := rgO_n (n := n + 1) h
theorem base_sum (w : Nat) : ∀ s, ((List.range s).map fun k => ch w k).sum = base w s
  | 0 => rfl
  | s + 1 => by rw [List.range_succ, List.map_append, List.sum_append, base_sum w s]; simp [base]
theorem choose_val (n i : Nat) : ((ch n i : Nat) : Int) * ((n : Int) - (i : Int)) / ((i : Int) + 1) = ((ch n (i + 1) : Nat) : Int) := by
  rcases Nat.lt_or_ge n i with h | h
  · rw [ch_z n i h, ch_z n (i + 1) (by omega)]; simp
  · have e : (n : Int) - (i : Int) = ((n - i : Nat) : Int) := by omega
    rw [e, ← Int.natCast_mul, ch_step, Int.natCast_mul]
    exact Int.mul_ediv_cancel _ (by omega)
theorem choose_eq {n k : Nat} (hn : n ≤ 1000) (hk : k ≤ 1000) : F_choose [.int (n : Int), .int (k : Int)] = .ok (.int (ch n k : Nat)) := by
  obtain ⟨ρ', h, v, rfl⟩ := for_r0 (g := gN 3) (b := sSet 2 (eOp fdivD (eOp mulD (eV 2) (eOp subD (eV 0) (eV 3))) (eOp addD (eV 3) (eC (.int 1))))) (n := k)
    (fun i ρ => ∃ v, ρ = [.fz (.int (n : Int)), .fz (.int (k : Int)), .fz (.int (ch n i : Nat)), v]) (ρ := [.fz (.int (n : Int)), .fz (.int (k : Int)), .fz (.int 1), .un]) ⟨.un, by rw [ch_0]; rfl⟩ (fun i ρ hi => by
      rintro ⟨v, rfl⟩
      refine ⟨[.fz (.int (n : Int)), .fz (.int (k : Int)), .fz (.int (ch n i : Nat)), .fz (.int (i : Int))], [.fz (.int (n : Int)), .fz (.int (k : Int)), .fz (.int (ch n (i + 1) : Nat)), .fz (.int (i : Int))], rfl, .inl ?_, _, rfl⟩
      have e1 : mulD (.int (ch n i : Nat)) (.int ((n : Int) - (i : Int))) = some (.int ((ch n i : Nat) * ((n : Int) - (i : Int)))) := mul_r ⟨by omega, by omega⟩
      have e2 : fdivD (.int ((ch n i : Nat) * ((n : Int) - (i : Int)))) (.int ((i : Int) + 1)) = some (.int (ch n (i + 1) : Nat)) := by
        rw [fdiv_i ⟨by omega, by omega⟩, choose_val]
      simp [e1, e2])
  have hr : rgO 0 (k : Int) = .ok (rgD 0 k) := rgO_n (by omega)
  simp [F_choose, runF, B_choose, hr, h]
theorem top_states_eq {w many : Nat} (hw : w ≤ 1000) (hm : many ≤ 900) : F_top_states [.int (w : Int), .int (many : Int)] = .ok (.int (base w (many + 1) : Nat)) := by
  have hc := comp_rg (g := gN 2) (t := fun _ => .ok true) (e := eFn 2 F_choose (eCons (eV 0) (eCons (eV 2) eNil))) (ρ := [.fz (.int (w : Int)), .fz (.int (many : Int)), .un])
    (fun _ => true) (fun k => .int (ch w k : Nat)) (many + 1) fun k hk => ⟨[.fz (.int (w : Int)), .fz (.int (many : Int)), .fz (.int (k : Int))], rfl, rfl, fun _ => by
      simp [choose_eq hw (show k ≤ 1000 by omega)]⟩
  have hr := rgO_s (n := many) (by omega)
  have e : (((List.range (many + 1)).filter fun _ => true).map fun k => D.int (ch w k : Nat)) = nats ((List.range (many + 1)).map fun k => ch w k) := by
    rw [nats, List.map_map, List.filter_eq_self.mpr (fun _ _ => rfl)]; rfl
  rw [e] at hc
  have hl : okL (nats ((List.range (many + 1)).map fun k => ch w k)) = true := okL_of (by rw [nats_len, List.length_map, List.length_range]; omega)
  simp [F_top_states, runF, B_top_states, hr, hc, hl, sumD_nats, base_sum]
theorem l_frozen : F_frozen = PL.M.F_frozen := rfl
theorem l_whole : F_is_whole = PL.M.F_is_whole := rfl
theorem l_lot : F_is_lot = PL.M.F_is_lot := rfl
theorem l_items : F_items_of = PL.M.F_items_of := rfl
theorem l_size : F_size = PL.M.F_size := rfl
theorem l_lot_of : F_lot_of = PL.M.F_lot_of := rfl
theorem l_litems : F__law_items = PL.M.F__law_items := rfl
theorem l_count : F__law_count = PL.M.F__law_count := rfl
theorem l_alike : F__law_alike = PL.M.F__law_alike := rfl
theorem l_cell : F__law_cell = PL.M.F__law_cell := rfl
theorem l_digits : F__law_digits = PL.M.F__law_digits := rfl
theorem l_lwhole : F__law_whole = PL.M.F__law_whole := rfl
theorem check_ok {w many c : Nat} (hw : w ≤ 1000) (hm : many ≤ 900) (hc : c < base w (many + 1)) : F_check_code [.int (w : Int), .int (many : Int), .int (c : Int)] = .ok .non := by
  have h0 : ¬ (c : Int) < 0 := by omega
  have h1 : ¬ ((base w (many + 1) : Nat) : Int) ≤ (c : Int) := by omega
  generalize hb : base w (many + 1) = b at *
  have ht := top_states_eq hw hm
  rw [hb] at ht
  simp [F_check_code, runF, B_check_code, l_whole, whole_i, ht, h0, h1]
theorem check_bad {w many : Nat} (hw : w ≤ 1000) (hm : many ≤ 900) {x : D} (hx : (∃ b, x = .bl b) ∨ ∃ i : Int, x = .int i ∧ (i < 0 ∨ (base w (many + 1) : Nat) ≤ i)) : F_check_code [.int (w : Int), .int (many : Int), x] = .ex "NoSuchNumber" [("number", x)] := by
  have ht := top_states_eq hw hm
  generalize base w (many + 1) = b at *
  rcases hx with ⟨c, rfl⟩ | ⟨i, rfl, h | h⟩
  · simp [F_check_code, runF, B_check_code, l_whole, whole_b, I_NoSuchNumber, iniF, J_NoSuchNumber, iSt, iEnd, l_frozen, frozen_b]
  · simp [F_check_code, runF, B_check_code, l_whole, whole_i, h, I_NoSuchNumber, iniF, J_NoSuchNumber, iSt, iEnd, l_frozen, frozen_i]
  · have h0 : ¬ i < 0 := by omega
    simp [F_check_code, runF, B_check_code, l_whole, whole_i, ht, h, h0, I_NoSuchNumber, iniF, J_NoSuchNumber, iSt, iEnd, l_frozen, frozen_i]
theorem greatest_within_ok {w rest l : Nat} (hw : w ≤ 900) (hl : l < w) : ∃ i, l ≤ i ∧ i < w ∧ ch i (l + 1) ≤ rest ∧ (i + 1 < w → rest < ch (i + 1) (l + 1)) ∧ F_greatest_within [.int (rest : Int), .int ((l : Int) + 1), .int (w : Int)] = .ok (.int (i : Int)) := by
  have hch : ∀ j : Nat, j < w → F_choose [.int ((j : Int) + 1), .int ((l : Int) + 1)] = .ok (.int (ch (j + 1) (l + 1) : Nat)) := fun j hj => choose_eq (n := j + 1) (k := l + 1) (by omega) (by omega)
  obtain ⟨m, ρ', hf, ⟨j, h1, h2, h3, rfl, rfl⟩, hc⟩ := wh_inv (c := eAnd (tT (eOp ltD (eOp addD (eV 3) (eC (.int 1))) (eV 2))) (tT (eOp leD (eFn 2 F_choose (eCons (eOp addD (eV 3) (eC (.int 1))) (eCons (eV 1) eNil))) (eV 0)))) (b := sAug 3 (fun i j => i + j) (eC (.int 1)))
    (fun m ρ => ∃ j : Nat, l ≤ j ∧ j < w ∧ ch j (l + 1) ≤ rest ∧ m = w - j ∧ ρ = [.fz (.int (rest : Int)), .fz (.int ((l : Int) + 1)), .fz (.int (w : Int)), .fz (.int (j : Int))]) (w - l) [.fz (.int (rest : Int)), .fz (.int ((l : Int) + 1)), .fz (.int (w : Int)), .fz (.int (l : Int))]
    ⟨l, Nat.le_refl _, hl, by rw [ch_z l (l + 1) (by omega)]; omega, rfl, rfl⟩ (fun m ρ => by
      rintro ⟨j, h1, h2, h3, rfl, rfl⟩
      by_cases a : j + 1 < w
      · have a' : (j : Int) + 1 < (w : Int) := by omega
        have hj := hch j h2
        by_cases b : ch (j + 1) (l + 1) ≤ rest
        · refine .inr ⟨?_, w - (j + 1), [.fz (.int (rest : Int)), .fz (.int ((l : Int) + 1)), .fz (.int (w : Int)), .fz (.int ((j : Int) + 1))], by omega, .inl (by simp), j + 1, by omega, a, b, rfl, rfl⟩
          have b' : ((ch (j + 1) (l + 1) : Nat) : Int) ≤ (rest : Int) := by omega
          generalize ch (j + 1) (l + 1) = q at hj b'
          simp [a', hj, b']
        · have b' : ¬ ((ch (j + 1) (l + 1) : Nat) : Int) ≤ (rest : Int) := by omega
          generalize ch (j + 1) (l + 1) = q at hj b'
          exact .inl (by simp [a', hj, b'])
      · have a' : ¬ (j : Int) + 1 < (w : Int) := by omega
        exact .inl (by simp [a']))
  refine ⟨j, h1, h2, h3, fun a => ?_, by simp [F_greatest_within, runF, B_greatest_within, hf]⟩
  have a' : (j : Int) + 1 < (w : Int) := by omega
  have hj := hch j h2
  by_cases b : ch (j + 1) (l + 1) ≤ rest
  · exfalso
    have b' : ((ch (j + 1) (l + 1) : Nat) : Int) ≤ (rest : Int) := by omega
    generalize ch (j + 1) (l + 1) = q at hj b'
    simp [a', hj, b'] at hc
  · omega
theorem coded_ok {w many c : Nat} (hw : w ≤ 900) (hm : many ≤ 900) (hc : c < base w (many + 1)) : ∃ lot, lot < 2 ^ w ∧ cnt lot w ≤ many ∧ code w lot = c ∧ F_coded_state [.int (w : Int), .int (many : Int), .int (c : Int)] = .ok (.int (lot : Nat)) := by
  -- the size
  obtain ⟨m, ρ', hf, ⟨s, r, h1, h2, rfl, rfl⟩, hz⟩ := wh_inv (c := tT (eOp geD (eV 3) (eFn 2 F_choose (eCons (eV 0) (eCons (eV 4) eNil))))) (b := sSeq (sSet 3 (eOp subD (eV 3) (eFn 2 F_choose (eCons (eV 0) (eCons (eV 4) eNil))))) (sAug 4 (fun i j => i + j) (eC (.int 1))))
    (fun m ρ => ∃ s r : Nat, s ≤ many ∧ base w s + r = c ∧ m = many - s ∧ ρ = [.fz (.int (w : Int)), .fz (.int (many : Int)), .fz (.int (c : Int)), .fz (.int (r : Int)), .fz (.int (s : Int)), .un, .un, .un, .un])
    many [.fz (.int (w : Int)), .fz (.int (many : Int)), .fz (.int (c : Int)), .fz (.int (c : Int)), .fz (.int 0), .un, .un, .un, .un] ⟨0, c, by omega, by simp [base], rfl, rfl⟩ (fun m ρ => by
      rintro ⟨s, r, h1, h2, rfl, rfl⟩
      have hch := choose_eq (n := w) (k := s) (by omega) (by omega)
      by_cases a : ch w s ≤ r
      · have hs : s < many := by
          rcases Nat.lt_or_ge s many with z | z
          · exact z
          · obtain rfl : s = many := by omega
            rw [base] at hc; omega
        have a' : ((ch w s : Nat) : Int) ≤ (r : Int) := by omega
        have e : (r : Int) - ((ch w s : Nat) : Int) = ((r - ch w s : Nat) : Int) := by omega
        refine .inr ⟨?_, many - (s + 1), [.fz (.int (w : Int)), .fz (.int (many : Int)), .fz (.int (c : Int)), .fz (.int ((r - ch w s : Nat) : Int)), .fz (.int ((s : Int) + 1)), .un, .un, .un, .un], by omega, .inl ?_, s + 1, r - ch w s, by omega, by rw [base]; omega, rfl, rfl⟩
        · generalize ch w s = q at hch a'
          simp [hch, a']
        · rw [← e]
          generalize ch w s = q at hch a'
          simp [hch]
      · have a' : ¬ ((ch w s : Nat) : Int) ≤ (r : Int) := by omega
        generalize ch w s = q at hch a'
        exact .inl (by simp [hch, a']))
  have hch := choose_eq (n := w) (k := s) (by omega) (by omega)
  have hrs : r < ch w s := by
    rcases Nat.lt_or_ge r (ch w s) with z | z
    · exact z
    · exfalso
      have a' : ((ch w s : Nat) : Int) ≤ (r : Int) := by omega
      generalize ch w s = q at hch a'
      simp [hch, a'] at hz
  have hsw : s ≤ w := by
    rcases Nat.lt_or_ge w s with z | z
    · rw [ch_z w s z] at hrs; omega
    · exact z
  -- the items
  obtain ⟨ρ2, hg, lot, rest, b, v6, v7, v8, hd, rfl⟩ := for_r0 (g := gN 6) (b := (sSeq (sSet 7 (eOp subD (eV 4) (eV 6)))
  (sSeq (sSet 8 (eFn 3 F_greatest_within (eCons (eV 3) (eCons (eV 7) (eCons (eV 0) eNil)))))
  (sSeq (sSet 5 (eOp orD (eV 5) (eOp shlD (eC (.int 1)) (eV 8))))
  (sSet 3 (eOp subD (eV 3) (eFn 2 F_choose (eCons (eV 8) (eCons (eV 7) eNil))))))))) (n := s)
    (fun i ρ => ∃ (lot rest b : Nat) (v6 v7 v8 : SV), Dec w s r lot rest (s - i) b ∧ ρ = [.fz (.int (w : Int)), .fz (.int (many : Int)), .fz (.int (c : Int)), .fz (.int (rest : Int)), .fz (.int (s : Int)), .fz (.int (lot : Int)), v6, v7, v8])
    (ρ := [.fz (.int (w : Int)), .fz (.int (many : Int)), .fz (.int (c : Int)), .fz (.int (r : Int)), .fz (.int (s : Int)), .fz (.int 0), .un, .un, .un]) ⟨0, r, w, .un, .un, .un, dec_start hrs, rfl⟩ (fun i ρ hi => by
      rintro ⟨lot, rest, b, v6, v7, v8, hd, rfl⟩
      obtain ⟨l, hl⟩ : ∃ l, s - i = l + 1 := ⟨s - i - 1, by omega⟩
      rw [hl] at hd
      obtain ⟨j, g1, g2, g3, g4, g5⟩ := greatest_within_ok (w := w) (rest := rest) (l := l) hw (by omega)
      have hjb : j < b := by
        rcases Nat.lt_or_ge j b with z | z
        · exact z
        · have := ch_mono z (l + 1); have := hd.2.2.1; omega
      have hlt : rest < ch (j + 1) (l + 1) := by
        by_cases a : j + 1 < w
        · exact g4 a
        · have := hd.1
          obtain rfl : b = j + 1 := by omega
          exact hd.2.2.1
      have hd' := dec_step hd hjb g3 hlt
      have e1 : (s : Int) - (i : Int) = (l : Int) + 1 := by omega
      have e2 : shlD (.int 1) (.int (j : Int)) = some (.int ((2 ^ j : Nat) : Int)) := by
        rw [shl_i ⟨by omega, by omega, by decide⟩]; simp
      have hcj : F_choose [.int (j : Int), .int ((l : Int) + 1)] = .ok (.int (ch j (l + 1) : Nat)) := choose_eq (n := j) (k := l + 1) (by omega) (by omega)
      have e3 : (rest : Int) - ((ch j (l + 1) : Nat) : Int) = ((rest - ch j (l + 1) : Nat) : Int) := by omega
      refine ⟨[.fz (.int (w : Int)), .fz (.int (many : Int)), .fz (.int (c : Int)), .fz (.int (rest : Int)), .fz (.int (s : Int)), .fz (.int (lot : Int)), .fz (.int (i : Int)), v7, v8], [.fz (.int (w : Int)), .fz (.int (many : Int)), .fz (.int (c : Int)), .fz (.int ((rest - ch j (l + 1) : Nat) : Int)), .fz (.int (s : Int)), .fz (.int ((lot ||| 2 ^ j : Nat) : Int)), .fz (.int (i : Int)), .fz (.int ((l : Int) + 1)), .fz (.int (j : Int))], rfl, .inl ?_, lot ||| 2 ^ j, rest - ch j (l + 1), j, _, _, _, by rw [show s - (i + 1) = l by omega]; exact hd', rfl⟩
      rw [← e3]
      generalize ch j (l + 1) = q at hcj
      generalize 2 ^ j = p at e2
      simp [e1, g5, e2, hcj, or_nn])
  rw [Nat.sub_self] at hd
  obtain ⟨d1, d2, d3⟩ := dec_end hd
  have hr : rgO 0 (s : Int) = .ok (rgD 0 s) := rgO_n (by omega)
  refine ⟨lot, d1, by omega, by unfold code; rw [d2, d3]; exact h2, ?_⟩
  simp [F_coded_state, runF, B_coded_state, check_ok (show w ≤ 1000 by omega) hm hc, hf, hr, hg]
theorem coded_code {w many lot : Nat} (hw : w ≤ 900) (hm : many ≤ 900) (hl : lot < 2 ^ w) (hc : cnt lot w ≤ many) : F_coded_state [.int (w : Int), .int (many : Int), .int (code w lot : Nat)] = .ok (.int (lot : Nat)) := by
  obtain ⟨l2, h1, h2, h3, h4⟩ := coded_ok hw hm (code_lt hc)
  rw [h4, code_inj h1 hl h3]
theorem coded_bad {w many : Nat} (hw : w ≤ 1000) (hm : many ≤ 900) {x : D} (hx : (∃ b, x = .bl b) ∨ ∃ i : Int, x = .int i ∧ (i < 0 ∨ (base w (many + 1) : Nat) ≤ i)) : F_coded_state [.int (w : Int), .int (many : Int), x] = .ex "NoSuchNumber" [("number", x)] := by
  simp [F_coded_state, runF, B_coded_state, check_bad hw hm hx]
end K80

/-! k80: what the functions compute, second part -/
namespace K80
open PySem PL PL.M
theorem its_cnt {w n : Nat} : (its w n).length = cnt n w := cnt_its n w
/-- partial sums over the items -/
def psum (l : List Nat) (i : Nat) : Nat := ((List.range i).map fun a => ch (l[a]?.getD 0) (a + 1)).sum
theorem psum_s (l : List Nat) (i : Nat) : psum l (i + 1) = psum l i + ch (l[i]?.getD 0) (i + 1) := by
  unfold psum; rw [List.range_succ, List.map_append, List.sum_append]; simp
theorem psum_its (n b : Nat) : psum (its b n) (its b n).length = cd n b := cd_its n b
theorem items_n {n b : Nat} (h : n < 2 ^ b) (hb : b ≤ 1000) : PL.M.F_items_of [.int (n : Int)] = .ok (.tup (nats (its b n))) := items_of_eq n b h hb
theorem lt_two {w n : Nat} (h : n < 2 ^ w) : (n : Int) ≤ 2 ^ w - 1 := by
  have : ((2 ^ w : Nat) : Int) = 2 ^ w := by simp
  omega
theorem state_code_ok {w many lot : Nat} (hw : w ≤ 900) (hl : lot < 2 ^ w) (hc : cnt lot w ≤ many) : F_state_code [.int (w : Int), .int (many : Int), .int (lot : Int)] = .ok (.int (code w lot : Nat)) := by
  have h1 := is_lot_i (lot : Int) w (by omega)
  rw [decide_eq_true (⟨by omega, lt_two hl⟩ : (0 : Int) ≤ (lot : Int) ∧ (lot : Int) ≤ 2 ^ w - 1)] at h1
  have h2 := size_eq lot w hl (by omega)
  have h3 := items_n hl (show w ≤ 1000 by omega)
  have hcw := cnt_le lot w
  have hi : ∀ i : Nat, i < cnt lot w → ∃ k : Nat, (its w lot)[i]? = some k ∧ k < w := fun i hi => by
    rw [← its_cnt] at hi
    refine ⟨(its w lot)[i], List.getElem?_eq_getElem hi, (its_mem.mp (List.getElem_mem hi)).1⟩
  have hb : ∀ i : Nat, i < cnt lot w → F_choose [.int (w : Int), .int (i : Int)] = .ok (.int (ch w i : Nat)) := fun i hi => choose_eq (by omega) (by omega)
  have hcm := comp_rg (g := gN 6) (t := fun _ => .ok true) (e := eFn 2 F_choose (eCons (eV 0) (eCons (eV 6) eNil))) (ρ := [.fz (.int (w : Int)), .fz (.int (many : Int)), .fz (.int (lot : Int)), .fz (.tup (nats (its w lot))), .un, .un, .un])
    (fun _ => true) (fun k => .int (ch w k : Nat)) (cnt lot w) fun k hk => ⟨[.fz (.int (w : Int)), .fz (.int (many : Int)), .fz (.int (lot : Int)), .fz (.tup (nats (its w lot))), .un, .un, .fz (.int (k : Int))], rfl, rfl, fun _ => by
      simp [hb k hk]⟩
  have e : (((List.range (cnt lot w)).filter fun _ => true).map fun k => D.int (ch w k : Nat)) = nats ((List.range (cnt lot w)).map fun k => ch w k) := by
    rw [nats, List.map_map, List.filter_eq_self.mpr (fun _ _ => rfl)]; rfl
  rw [e] at hcm
  have hll : okL (nats ((List.range (cnt lot w)).map fun k => ch w k)) = true := okL_of (by rw [nats_len, List.length_map, List.length_range]; omega)
  obtain ⟨ρ', hf, v, rfl⟩ := for_r0 (g := gN 5) (b := sSet 4 (eOp addD (eV 4) (eFn 2 F_choose (eCons (eOp ixD (xV 3) (eV 5)) (eCons (eOp addD (eV 5) (eC (.int 1))) eNil))))) (n := cnt lot w)
    (fun i ρ => ∃ v, ρ = [.fz (.int (w : Int)), .fz (.int (many : Int)), .fz (.int (lot : Int)), .fz (.tup (nats (its w lot))), .fz (.int ((base w (cnt lot w) + psum (its w lot) i : Nat) : Int)), v, .un])
    (ρ := [.fz (.int (w : Int)), .fz (.int (many : Int)), .fz (.int (lot : Int)), .fz (.tup (nats (its w lot))), .fz (.int (base w (cnt lot w) : Nat)), .un, .un]) ⟨.un, rfl⟩ (fun i ρ hi' => by
      rintro ⟨v, rfl⟩
      obtain ⟨k, hk, hkw⟩ := hi i hi'
      have e1 := nats_at hk
      have e2 : F_choose [.int (k : Int), .int ((i : Int) + 1)] = .ok (.int (ch k (i + 1) : Nat)) := choose_eq (n := k) (k := i + 1) (by omega) (by omega)
      refine ⟨[.fz (.int (w : Int)), .fz (.int (many : Int)), .fz (.int (lot : Int)), .fz (.tup (nats (its w lot))), .fz (.int ((base w (cnt lot w) + psum (its w lot) i : Nat) : Int)), .fz (.int (i : Int)), .un], [.fz (.int (w : Int)), .fz (.int (many : Int)), .fz (.int (lot : Int)), .fz (.tup (nats (its w lot))), .fz (.int ((base w (cnt lot w) + psum (its w lot) (i + 1) : Nat) : Int)), .fz (.int (i : Int)), .un], rfl, .inl ?_, _, rfl⟩
      have e3 : base w (cnt lot w) + psum (its w lot) (i + 1) = (base w (cnt lot w) + psum (its w lot) i) + ch k (i + 1) := by
        rw [psum_s, hk]; show _ + (_ + ch k _) = _; omega
      rw [e3]
      generalize base w (cnt lot w) + psum (its w lot) i = x
      generalize ch k (i + 1) = y at e2
      simp [e1, e2])
  have hp := psum_its lot w
  rw [its_cnt] at hp
  rw [hp] at hf
  have h4 : ¬ ((many : Int) < (cnt lot w : Nat)) := by omega
  have hr : rgO 0 ((cnt lot w : Nat) : Int) = .ok (rgD 0 (cnt lot w)) := rgO_n (by omega)
  rw [its_cnt] at h2
  have hln : (nats (its w lot)).length = cnt lot w := by rw [nats_len, its_cnt]
  have hsum := sumD_nats ((List.range (cnt lot w)).map fun k => ch w k)
  rw [base_sum] at hsum
  unfold code
  generalize nats ((List.range (cnt lot w)).map fun k => ch w k) = L at *
  generalize hq : cnt lot w = q at *
  generalize base w q + cd lot w = bbd at *
  generalize base w q = bb at *
  simp [F_state_code, runF, B_state_code, l_lot, l_size, l_items, h1, h2, h3, h4, hln, hr, hcm, hll, hsum, hf]
theorem state_bad {w many : Nat} (hw : w ≤ 900) {x : D} (hx : (∃ b, x = .bl b) ∨ (∃ i : Int, x = .int i ∧ (i < 0 ∨ 2 ^ w ≤ i)) ∨ ∃ n : Nat, x = .int (n : Int) ∧ n < 2 ^ w ∧ many < cnt n w) : F_state_code [.int (w : Int), .int (many : Int), x] = .ex "BadLot" [("lot", x)] := by
  rcases hx with ⟨b, rfl⟩ | ⟨i, rfl, h⟩ | ⟨n, rfl, h, hm⟩
  · simp [F_state_code, runF, B_state_code, l_lot, is_lot_b, I_BadLot, iniF, J_BadLot, iSt, iEnd, l_frozen, frozen_b]
  · have h1 := is_lot_i i w (by omega)
    rw [decide_eq_false (by omega)] at h1
    simp [F_state_code, runF, B_state_code, l_lot, h1, I_BadLot, iniF, J_BadLot, iSt, iEnd, l_frozen, frozen_i]
  · have h1 := is_lot_i (n : Int) w (by omega)
    rw [decide_eq_true (⟨by omega, lt_two h⟩ : (0 : Int) ≤ (n : Int) ∧ (n : Int) ≤ 2 ^ w - 1)] at h1
    have h2 := size_eq n w h (by omega)
    rw [its_cnt] at h2
    have h4 : (many : Int) < (cnt n w : Nat) := by omega
    generalize cnt n w = q at *
    simp [F_state_code, runF, B_state_code, l_lot, l_size, h1, h2, h4, I_BadLot, iniF, J_BadLot, iSt, iEnd, l_frozen, frozen_i]
/-! ### lots of listed items -/
theorem lotN_snoc (l : List Nat) (k : Nat) : lotN (l ++ [k]) = lotN l ||| 2 ^ k := by unfold lotN; rw [List.foldl_append]; rfl
theorem lotN_spec : ∀ (w : Nat) (l : List Nat), l.Sublist (List.range w) → lotN l < 2 ^ w ∧ (l.map fun i => 2 ^ i).sum = lotN l ∧ its w (lotN l) = l
  | 0, l, h => by
    obtain rfl : l = [] := List.eq_nil_of_sublist_nil h
    exact ⟨by decide, rfl, rfl⟩
  | w + 1, l, h => by
    rw [List.range_succ] at h
    obtain ⟨l1, l2, rfl, h1, h2⟩ := List.sublist_append_iff.mp h
    obtain ⟨i1, i2, i3⟩ := lotN_spec w l1 h1
    have its_s : ∀ n, its (w + 1) n = if n.testBit w then its w n ++ [w] else its w n := fun n => by
      unfold its; rw [List.range_succ, List.filter_append]
      cases h : n.testBit w <;> simp [h]
    have h2' : l2 = [] ∨ l2 = [w] := by
      cases h2 with
      | cons _ h => exact .inl (List.eq_nil_of_sublist_nil h)
      | cons_cons _ h => rw [List.eq_nil_of_sublist_nil h]; exact .inr rfl
    rcases h2' with rfl | rfl
    · rw [List.append_nil]
      refine ⟨Nat.lt_of_lt_of_le i1 (Nat.pow_le_pow_right (by omega) (by omega)), i2, ?_⟩
      rw [its_s, Nat.testBit_lt_two_pow i1]; exact i3
    · rw [lotN_snoc]
      refine ⟨or_lt i1 (by omega), ?_, ?_⟩
      · rw [List.map_append, List.sum_append, i2]
        have := Nat.two_pow_add_eq_or_of_lt i1 1
        rw [Nat.mul_one] at this
        rw [Nat.or_comm, ← this]
        simp; omega
      · have hb : (lotN l1 ||| 2 ^ w).testBit w = true := by rw [bit_or]; simp
        rw [its_s, hb, if_pos rfl]
        have e : its w (lotN l1 ||| 2 ^ w) = its w (lotN l1) := by
          unfold its
          apply List.filter_congr
          intro k hk
          have := List.mem_range.mp hk
          rw [bit_or]; simp [show ¬ w = k by omega]
        rw [e, i3]
/-- the many greatest items of a lot -/
def topL (w n many : Nat) : List Nat := (its w n).drop ((its w n).length - many)
theorem topL_sub (w n many : Nat) : (topL w n many).Sublist (List.range w) := (List.drop_sublist _ _).trans List.filter_sublist
def topN (w n many : Nat) : Nat := lotN (topL w n many)
theorem topN_lt (w n many : Nat) : topN w n many < 2 ^ w := (lotN_spec w _ (topL_sub w n many)).1
theorem topN_cnt (w n many : Nat) : cnt (topN w n many) w ≤ many := by
  rw [← its_cnt, topN, (lotN_spec w _ (topL_sub w n many)).2.2, topL, List.length_drop]; omega
theorem cut_drop (ds : List D) (n : Nat) (h : n ≤ ds.length) : cutD ds (some (n : Int)) none = ds.drop n := by
  unfold cutD
  rw [HT.sIx_nat, HT.sIx_none, Nat.min_eq_left h]
  rw [List.take_of_length_le (by rw [List.length_drop]; exact Nat.le_refl _)]
theorem nats_drop (l : List Nat) (n : Nat) : (nats l).drop n = nats (l.drop n) := by unfold nats; rw [List.map_drop]
theorem max_cut (a b : Nat) : max2D [.int 0, .int ((a : Int) - (b : Int))] = some (.int ((a - b : Nat) : Int)) := by
  rw [max2_i]; congr 2; split <;> omega
theorem greatest_ok {w n many : Nat} (hw : w ≤ 900) (hn : n < 2 ^ w) : F_greatest_items [.int (n : Int), .int (many : Int)] = .ok (.int (topN w n many : Nat)) := by
  have h1 := items_n hn (show w ≤ 1000 by omega)
  have h2 := lot_of_go (topL w n many) (fun i hi => by have := List.mem_range.mp ((topL_sub w n many).subset hi); omega) (.tup (nats (topL w n many))) rfl
  have h3 : cutD (nats (its w n)) (some (((its w n).length - many : Nat) : Int)) none = nats (topL w n many) := by
    rw [cut_drop _ _ (by rw [nats_len]; omega), nats_drop]; rfl
  have h4 := max_cut (its w n).length many
  have h5 : slD (.tup (nats (its w n))) (some (((its w n).length - many : Nat) : Int)) none = some (.tup (nats (topL w n many))) := congrArg (fun x => some (D.tup x)) h3
  unfold topN
  generalize (its w n).length - many = q at *
  simp [F_greatest_items, runF, B_greatest_items, l_items, l_lot_of, h1, nats_len, -max2_i, h4, h5, h2]
theorem law_items_n {w n : Nat} (hw : w ≤ 40) (hn : n < 2 ^ w) : PL.M.F__law_items [.int (n : Int)] = .ok (.lst (nats (its w n))) := by
  rw [law_items_eq, its_eq (Nat.lt_of_lt_of_le hn (Nat.pow_le_pow_right (by omega) hw)) hn]; rfl
theorem law_count_n {w n : Nat} (hw : w ≤ 40) (hn : n < 2 ^ w) : PL.M.F__law_count [.int (n : Int)] = .ok (.int (cnt n w : Nat)) := by
  rw [law_count_eq, its_eq (Nat.lt_of_lt_of_le hn (Nat.pow_le_pow_right (by omega) hw)) hn, its_cnt]
theorem law_top_ok {w n many : Nat} (hw : w ≤ 40) (hn : n < 2 ^ w) : F__law_top [.int (n : Int), .int (many : Int)] = .ok (.int (topN w n many : Nat)) := by
  have h1 := law_items_n hw hn
  have h3 : cutD (nats (its w n)) (some (((its w n).length - many : Nat) : Int)) none = nats (topL w n many) := by
    rw [cut_drop _ _ (by rw [nats_len]; omega), nats_drop]; rfl
  have h4 := max_cut (its w n).length many
  have h5 : slD (.lst (nats (its w n))) (some (((its w n).length - many : Nat) : Int)) none = some (.lst (nats (topL w n many))) := congrArg (fun x => some (D.lst x)) h3
  have hc := comp_map (g := gN 3) (t := fun _ => .ok true) (e := eOp shlD (eC (.int 1)) (eV 3)) (ρ := [.fz (.int (n : Int)), .fz (.int (many : Int)), .fz (.lst (nats (its w n))), .un])
    (fun (k : Nat) => D.int (k : Int)) (fun _ => true) (fun k => .int ((2 ^ k : Nat) : Int)) (topL w n many) fun k hk => ⟨[.fz (.int (n : Int)), .fz (.int (many : Int)), .fz (.lst (nats (its w n))), .fz (.int (k : Int))], rfl, rfl, fun _ => by
      have hkw := List.mem_range.mp ((topL_sub w n many).subset hk)
      have e2 : shlD (.int 1) (.int (k : Int)) = some (.int ((2 ^ k : Nat) : Int)) := by
        rw [shl_i ⟨by omega, by omega, by decide⟩]; simp
      generalize 2 ^ k = q at e2 ⊢
      simp [e2]⟩
  have e : (((topL w n many).filter fun _ => true).map fun k => D.int ((2 ^ k : Nat) : Int)) = nats ((topL w n many).map fun k => 2 ^ k) := by
    rw [nats, List.map_map, List.filter_eq_self.mpr (fun _ _ => rfl)]; rfl
  rw [e] at hc
  change compF _ _ _ _ (nats (topL w n many)) = _ at hc
  have hlen := (topL_sub w n many).length_le
  rw [List.length_range] at hlen
  have hl : okL (nats ((topL w n many).map fun k => 2 ^ k)) = true := okL_of (by rw [nats_len, List.length_map]; omega)
  have hs := (lotN_spec w _ (topL_sub w n many)).2.1
  have hss := sumD_nats ((topL w n many).map fun k => 2 ^ k)
  rw [hs] at hss
  unfold topN
  generalize nats ((topL w n many).map fun k => 2 ^ k) = L at *
  generalize (its w n).length - many = q at *
  simp [F__law_top, runF, B__law_top, l_litems, h1, nats_len, -max2_i, h4, h5, hc, hl, hss]
theorem or_i (a b : Nat) : orD (.int (a : Int)) (.int (b : Int)) = some (.int ((a ||| b : Nat) : Int)) := by rw [PL.or_i, or_nn]
theorem joined_ok {w many a b : Nat} (hw : w ≤ 900) (hm : many ≤ 900) (ha : a < 2 ^ w) (hb : b < 2 ^ w) (ca : cnt a w ≤ many) (cb : cnt b w ≤ many) :
    F_joined_codes [.int (w : Int), .int (many : Int), .int (code w a : Nat), .int (code w b : Nat)] = .ok (.int (code w (topN w (a ||| b) many) : Nat)) := by
  have h1 := coded_code hw hm ha ca
  have h2 := coded_code hw hm hb cb
  have h3 := greatest_ok (many := many) hw (Nat.or_lt_two_pow ha hb)
  have h4 := state_code_ok hw (topN_lt w (a ||| b) many) (topN_cnt w (a ||| b) many)
  have h5 := or_i a b
  generalize a ||| b = q at *
  simp [F_joined_codes, runF, B_joined_codes, h1, h2, -PL.or_i, h5, h3, h4]
theorem joined_bad1 {w many : Nat} (hw : w ≤ 900) (hm : many ≤ 900) {x y : D} (hx : (∃ b, x = .bl b) ∨ ∃ i : Int, x = .int i ∧ (i < 0 ∨ (base w (many + 1) : Nat) ≤ i)) : F_joined_codes [.int (w : Int), .int (many : Int), x, y] = .ex "NoSuchNumber" [("number", x)] := by
  simp [F_joined_codes, runF, B_joined_codes, coded_bad (show w ≤ 1000 by omega) hm hx]
theorem joined_bad2 {w many a : Nat} (hw : w ≤ 900) (hm : many ≤ 900) (ha : a < base w (many + 1)) {x : D} (hx : (∃ b, x = .bl b) ∨ ∃ i : Int, x = .int i ∧ (i < 0 ∨ (base w (many + 1) : Nat) ≤ i)) : F_joined_codes [.int (w : Int), .int (many : Int), .int (a : Int), x] = .ex "NoSuchNumber" [("number", x)] := by
  obtain ⟨l, _, _, _, h⟩ := coded_ok hw hm ha
  simp [F_joined_codes, runF, B_joined_codes, h, coded_bad (show w ≤ 1000 by omega) hm hx]
/-! ### doublings -/
theorem bits_ok {n : Nat} (hn : n ≤ 2 ^ 80) : ∃ t : Nat, F_bits [.int (n : Int)] = .ok (.int (t : Int)) ∧ n ≤ 2 ^ t ∧ (t = 0 ∨ 2 ^ (t - 1) < n) := by
  obtain ⟨m, ρ', hf, ⟨t, h1, rfl, rfl⟩, hz⟩ := wh_inv (c := tT (eOp ltD (eV 2) (eV 0))) (b := sSeq (sSet 2 (eOp mulD (eV 2) (eC (.int 2)))) (sAug 1 (fun i j => i + j) (eC (.int 1))))
    (fun m ρ => ∃ t : Nat, (t = 0 ∨ 2 ^ (t - 1) < n) ∧ m = n - 2 ^ t ∧ ρ = [.fz (.int (n : Int)), .fz (.int (t : Int)), .fz (.int ((2 ^ t : Nat) : Int))]) (n - 1) [.fz (.int (n : Int)), .fz (.int 0), .fz (.int 1)] ⟨0, .inl rfl, rfl, rfl⟩ (fun m ρ => by
      rintro ⟨t, h1, rfl, rfl⟩
      have hp := Nat.two_pow_pos t
      have e : 2 ^ (t + 1) = 2 ^ t * 2 := Nat.pow_succ ..
      by_cases a : 2 ^ t < n
      · refine .inr ⟨?_, n - 2 ^ (t + 1), [.fz (.int (n : Int)), .fz (.int ((t : Int) + 1)), .fz (.int ((2 ^ (t + 1) : Nat) : Int))], by omega, .inl ?_, t + 1, .inr a, rfl, rfl⟩
        · generalize 2 ^ t = q at *
          simp; exact a
        · rw [e]
          generalize 2 ^ t = q at *
          have e1 : mulD (.int (q : Int)) (.int 2) = some (.int ((q : Int) * 2)) := mul_r (by decide)
          simp [e1]
      · generalize 2 ^ t = q at *
        exact .inl (by simp; omega))
  refine ⟨t, by simp [F_bits, runF, B_bits, hf], ?_, h1⟩
  generalize 2 ^ t = q at *
  simp at hz; omega
theorem bits_right {n : Nat} (hn : n ≤ 2 ^ 80) : F__law_bits_right [.int (n : Int)] = .ok (.bl true) := by
  obtain ⟨t, h1, h2, h3⟩ := bits_ok hn
  have ht : t ≤ 80 := by
    rcases h3 with rfl | h3
    · omega
    · rcases Nat.lt_or_ge 80 t with z | z
      · have : 2 ^ 80 ≤ 2 ^ (t - 1) := Nat.pow_le_pow_right (by omega) (by omega)
        omega
      · exact z
  have e1 : shlD (.int 1) (.int (t : Int)) = some (.int ((2 ^ t : Nat) : Int)) := by
    rw [shl_i ⟨by omega, by omega, by decide⟩]; simp
  have h0 : ¬ (t : Int) < 0 := by omega
  have h8 : ¬ (80 : Int) < (t : Int) := by omega
  have hw : ∀ i : Int, F__law_whole [.int i] = .ok (.bl true) := fun i => whole_i i
  have h2' : (n : Int) ≤ ((2 ^ t : Nat) : Int) := by omega
  have z0 : shlD (.int 1) (.int 0) = some (.int 1) := shl_i (by decide)
  have zero : n ≤ 1 → F_bits [.int (n : Int)] = .ok (.int 0) → F__law_bits_right [.int (n : Int)] = .ok (.bl true) := fun g0 g1 => by
    have g0' : (n : Int) ≤ 1 := by omega
    simp [F__law_bits_right, runF, B__law_bits_right, g1, hw, z0, g0']
  by_cases hz : t = 0
  · subst hz; exact zero h2 h1
  · rcases h3 with h3 | h3
    · exact absurd h3 hz
    · have hz' : ¬ (t : Int) = 0 := by omega
      have e2 : shlD (.int 1) (.int ((t : Int) - 1)) = some (.int ((2 ^ (t - 1) : Nat) : Int)) := by
        rw [shl_i ⟨by omega, by omega, by decide⟩, show ((t : Int) - 1).toNat = t - 1 by omega]; simp
      have h3' : ((2 ^ (t - 1) : Nat) : Int) < (n : Int) := by omega
      generalize 2 ^ (t - 1) = p at *
      generalize 2 ^ t = q at *
      simp [F__law_bits_right, runF, B__law_bits_right, h1, hw, e1, h2', h0, h8, hz', e2, h3']
end K80

/-! k80: what the functions compute, third part -/
namespace K80
open PySem PL PL.M
/-! ### the triangle -/
def rowN (k : Nat) : List Nat := (List.range 42).map (ch k)
def rowD (k : Nat) : D := .lst (nats (rowN k))
noncomputable def TR : D := .lst ((List.range 42).map rowD)
theorem row_at {k i : Nat} (hi : i < 42) : (rowN k)[i]? = some (ch k i) := by
  unfold rowN; rw [List.getElem?_map, List.getElem?_range hi]; rfl
theorem tr_at {k : Nat} (hk : k < 42) : L2.atI ((List.range 42).map rowD) (k : Int) = some (rowD k) := L2.atI_nat (by
  rw [List.getElem?_map, List.getElem?_range hk]; rfl)
theorem row_next (k : Nat) : rowN (k + 1) = 1 :: (List.range 41).map fun j => ch k j + ch k (j + 1) := by
  unfold rowN
  rw [show (42 : Nat) = 41 + 1 from rfl, List.range_succ_eq_map, List.map_cons, List.map_map, ch_0]
  rfl
theorem nats_cons (a : Nat) (l : List Nat) : nats (a :: l) = .int (a : Int) :: nats l := rfl
theorem mul_lst {xs : List D} {k : Int} (h : -(2 ^ 63) ≤ k ∧ k < 2 ^ 63 ∧ xs.length * k.toNat ≤ 16777216) : mulD (.lst xs) (.int k) = some (.lst (List.replicate k.toNat xs).flatten) := by
  show @ite _ _ (Classical.propDecidable _) _ none = _
  rw [if_pos h]
theorem add_lst {xs ys : List D} (h : xs.length + ys.length ≤ 16777216) : addD (.lst xs) (.lst ys) = some (.lst (xs ++ ys)) := by
  show (if xs.length + ys.length ≤ 16777216 then some (D.lst (xs ++ ys)) else none) = _
  rw [if_pos h]
theorem rg42 : rgO 1 42 = .ok (rgD 1 41) := rgO_of (i := 1) (j := 42) (by decide) (by decide)
theorem rg41 : rgO 0 41 = .ok (rgD 0 41) := rgO_n (n := 41) (by decide)
theorem triangle_ok : F__law_triangle [] = .ok TR := by
  have h0 : addD (.lst [.int 1]) (.lst (List.replicate 41 [.int 0]).flatten) = some (rowD 0) := by
    rw [add_lst (by decide)]; rfl
  have hm : mulD (.lst [.int 0]) (.int 41) = some (.lst (List.replicate 41 [.int 0]).flatten) := mul_lst (by decide)
  obtain ⟨ρ', hf, v1, v2, rfl⟩ := for_r0 (g := gN 1) (b := (sSeq (sSet 2 (eOp ixD (xV 0) (eV 1)))
  (sApp 0 (eOp addD (nl (eLst (eCons (eC (.int 1)) eNil))) (nl (cLc [3] (iR2 (eCons (eC (.int 1)) (eCons (eC (.int 42)) eNil))) (gN 3) (fun _ => .ok true) (eOp addD (eOp ixD (xV 2) (eOp subD (eV 3) (eC (.int 1)))) (eOp ixD (xV 2) (eV 3))))))))) (n := 41)
    (fun i ρ => ∃ v1 v2, ρ = [.ow ((List.range (i + 1)).map rowD), v1, v2, .un]) (ρ := [.ow [rowD 0], .un, .un, .un]) ⟨.un, .un, rfl⟩ (fun i ρ hi => by
      rintro ⟨v1, v2, rfl⟩
      have hat : L2.atI ((List.range (i + 1)).map rowD) (i : Int) = some (rowD i) := L2.atI_nat (by
        rw [List.getElem?_map, List.getElem?_range (by omega)]; rfl)
      refine ⟨[.ow ((List.range (i + 1)).map rowD), .fz (.int (i : Int)), v2, .un], [.ow ((List.range (i + 1 + 1)).map rowD), .fz (.int (i : Int)), .fz (rowD i), .un], rfl, .inl ?_, _, _, rfl⟩
      have hc := comp_map (g := gN 3) (t := fun _ => .ok true) (e := eOp addD (eOp ixD (xV 2) (eOp subD (eV 3) (eC (.int 1)))) (eOp ixD (xV 2) (eV 3))) (ρ := [.ow ((List.range (i + 1)).map rowD), .fz (.int (i : Int)), .fz (rowD i), .un])
        (fun (j : Nat) => D.int (1 + (j : Int))) (fun _ => true) (fun j => .int ((ch i j + ch i (j + 1) : Nat) : Int)) (List.range 41) fun j hj => ⟨[.ow ((List.range (i + 1)).map rowD), .fz (.int (i : Int)), .fz (rowD i), .fz (.int (1 + (j : Int)))], rfl, rfl, fun _ => by
          have hj := List.mem_range.mp hj
          have e1 := nats_at (row_at (k := i) (i := j) (by omega))
          have e2 := nats_at (row_at (k := i) (i := j + 1) (by omega))
          have e3 : (1 : Int) + (j : Int) - 1 = (j : Int) := by omega
          have e4 : (1 : Int) + (j : Int) = ((j + 1 : Nat) : Int) := by omega
          generalize ch i j = x at *
          generalize ch i (j + 1) = y at *
          simp [rowD, e3, e1]
          rw [e4, e2]; simp⟩
      have e : (((List.range 41).filter fun _ => true).map fun j => D.int ((ch i j + ch i (j + 1) : Nat) : Int)) = nats ((List.range 41).map fun j => ch i j + ch i (j + 1)) := by
        rw [nats, List.map_map, List.filter_eq_self.mpr (fun _ _ => rfl)]; rfl
      rw [e] at hc
      change compF _ _ _ _ (rgD 1 41) = _ at hc
      have hl : okL (nats ((List.range 41).map fun j => ch i j + ch i (j + 1))) = true := okL_of (by rw [nats_len, List.length_map, List.length_range]; decide)
      have hadd : addD (.lst [.int 1]) (.lst (nats ((List.range 41).map fun j => ch i j + ch i (j + 1)))) = some (rowD (i + 1)) := by
        rw [add_lst (by rw [nats_len, List.length_map, List.length_range]; decide), rowD, row_next]; rfl
      have hs : (List.range (i + 1 + 1)).map rowD = (List.range (i + 1)).map rowD ++ [rowD (i + 1)] := by
        rw [List.range_succ, List.map_append]; rfl
      have hlen : ((List.range (i + 1)).map rowD).length < 16777216 := by rw [List.length_map, List.length_range]; omega
      have ho : okL [D.int 1] = true := okL_of (Nat.le_of_ble_eq_true rfl)
      rw [hs]
      generalize nats ((List.range 41).map fun j => ch i j + ch i (j + 1)) = L at *
      generalize (List.range (i + 1)).map rowD = R at *
      simp [hat, ho, rg42, hc, hl, hadd, hlen])
  have ho : okL [D.int 1] = true := okL_of (Nat.le_of_ble_eq_true rfl)
  have ho0 : okL [D.int 0] = true := okL_of (Nat.le_of_ble_eq_true rfl)
  have ho1 : okL [rowD 0] = true := okL_of (Nat.le_of_ble_eq_true rfl)
  generalize (List.replicate 41 [D.int 0]).flatten = Z at h0 hm
  simp [F__law_triangle, runF, B__law_triangle, ho, ho0, hm, h0, ho1, rg41, hf]
  rfl
theorem law_code_ok {w lot : Nat} (hw : w ≤ 40) (hl : lot < 2 ^ w) : F__law_code [TR, .int (w : Int), .int (lot : Int)] = .ok (.int (code w lot : Nat)) := by
  have h1 := law_items_n hw hl
  have hcw := cnt_le lot w
  have hrow := tr_at (k := w) (by omega)
  have hi : ∀ i : Nat, i < cnt lot w → ∃ k : Nat, (its w lot)[i]? = some k ∧ k < w := fun i hi => by
    rw [← its_cnt] at hi
    refine ⟨(its w lot)[i], List.getElem?_eq_getElem hi, (its_mem.mp (List.getElem_mem hi)).1⟩
  have hcm := comp_rg (g := gN 7) (t := fun _ => .ok true) (e := eOp ixD (xV 4) (eV 7)) (ρ := [.fz TR, .fz (.int (w : Int)), .fz (.int (lot : Int)), .fz (.lst (nats (its w lot))), .fz (rowD w), .un, .un, .un])
    (fun _ => true) (fun k => .int (ch w k : Nat)) (cnt lot w) fun k hk => ⟨[.fz TR, .fz (.int (w : Int)), .fz (.int (lot : Int)), .fz (.lst (nats (its w lot))), .fz (rowD w), .un, .un, .fz (.int (k : Int))], rfl, rfl, fun _ => by
      have e1 := nats_at (row_at (k := w) (i := k) (by omega))
      generalize ch w k = x at *
      simp [rowD, e1]⟩
  have e : (((List.range (cnt lot w)).filter fun _ => true).map fun k => D.int (ch w k : Nat)) = nats ((List.range (cnt lot w)).map fun k => ch w k) := by
    rw [nats, List.map_map, List.filter_eq_self.mpr (fun _ _ => rfl)]; rfl
  rw [e] at hcm
  have hll : okL (nats ((List.range (cnt lot w)).map fun k => ch w k)) = true := okL_of (by rw [nats_len, List.length_map, List.length_range]; omega)
  obtain ⟨ρ', hf, v, v', rfl⟩ := for_r0 (g := gN 6) (b := (sSeq (sSet 4 (eOp ixD (xV 0) (eOp ixD (xV 3) (eV 6))))
  (sSet 5 (eOp addD (eV 5) (eOp ixD (xV 4) (eOp addD (eV 6) (eC (.int 1)))))))) (n := cnt lot w)
    (fun i ρ => ∃ v v', ρ = [.fz TR, .fz (.int (w : Int)), .fz (.int (lot : Int)), .fz (.lst (nats (its w lot))), v', .fz (.int ((base w (cnt lot w) + psum (its w lot) i : Nat) : Int)), v, .un])
    (ρ := [.fz TR, .fz (.int (w : Int)), .fz (.int (lot : Int)), .fz (.lst (nats (its w lot))), .fz (rowD w), .fz (.int (base w (cnt lot w) : Nat)), .un, .un]) ⟨.un, _, rfl⟩ (fun i ρ hi' => by
      rintro ⟨v, v', rfl⟩
      obtain ⟨k, hk, hkw⟩ := hi i hi'
      have e1 := nats_at hk
      have e2 := tr_at (k := k) (by omega)
      have e4 : L2.atI (nats (rowN k)) ((i : Int) + 1) = some (.int (ch k (i + 1) : Nat)) := nats_at (row_at (k := k) (i := i + 1) (by omega))
      refine ⟨[.fz TR, .fz (.int (w : Int)), .fz (.int (lot : Int)), .fz (.lst (nats (its w lot))), v', .fz (.int ((base w (cnt lot w) + psum (its w lot) i : Nat) : Int)), .fz (.int (i : Int)), .un], [.fz TR, .fz (.int (w : Int)), .fz (.int (lot : Int)), .fz (.lst (nats (its w lot))), .fz (rowD k), .fz (.int ((base w (cnt lot w) + psum (its w lot) (i + 1) : Nat) : Int)), .fz (.int (i : Int)), .un], rfl, .inl ?_, _, _, rfl⟩
      have e3 : base w (cnt lot w) + psum (its w lot) (i + 1) = (base w (cnt lot w) + psum (its w lot) i) + ch k (i + 1) := by
        rw [psum_s, hk]; show _ + (_ + ch k _) = _; omega
      rw [e3]
      generalize base w (cnt lot w) + psum (its w lot) i = x
      generalize ch k (i + 1) = y at e4
      simp [e1, TR, e2]
      simp [rowD, e4])
  have hp := psum_its lot w
  rw [its_cnt] at hp
  rw [hp] at hf
  have hr : rgO 0 ((cnt lot w : Nat) : Int) = .ok (rgD 0 (cnt lot w)) := rgO_n (by omega)
  have hln : (nats (its w lot)).length = cnt lot w := by rw [nats_len, its_cnt]
  have hsum := sumD_nats ((List.range (cnt lot w)).map fun k => ch w k)
  rw [base_sum] at hsum
  have hix : ixD TR (.int (w : Int)) = some (rowD w) := hrow
  unfold code
  generalize TR = T at *
  generalize nats ((List.range (cnt lot w)).map fun k => ch w k) = L at *
  generalize hq : cnt lot w = q at *
  generalize base w q + cd lot w = bbd at *
  generalize base w q = bb at *
  simp [F__law_code, runF, B__law_code, l_litems, h1, hln, hr, hix, hcm, hll, hsum, hf]
/-! ### the next lot -/
theorem its_get {n : Nat} : ∀ {w i k : Nat}, (its w n)[i]? = some k → k < w ∧ n.testBit k = true ∧ cnt n k = i
  | 0, i, k, h => by cases h
  | w + 1, i, k, h => by
    have its_s : its (w + 1) n = if n.testBit w then its w n ++ [w] else its w n := by
      unfold its; rw [List.range_succ, List.filter_append]
      cases h : n.testBit w <;> simp [h]
    rw [its_s] at h
    cases hb : n.testBit w with
    | false =>
      rw [hb] at h
      obtain ⟨h1, h2, h3⟩ := its_get (w := w) h
      exact ⟨by omega, h2, h3⟩
    | true =>
      rw [hb, if_pos rfl] at h
      by_cases hi : i < (its w n).length
      · rw [List.getElem?_append_left hi] at h
        obtain ⟨h1, h2, h3⟩ := its_get (w := w) h
        exact ⟨by omega, h2, h3⟩
      · rw [List.getElem?_append_right (by omega)] at h
        obtain ⟨h1, h2⟩ := List.getElem?_eq_some_iff.mp h
        rw [List.length_singleton] at h1
        have : w = k := by simpa using h2
        subst this
        exact ⟨by omega, hb, by rw [← its_cnt]; omega⟩
theorem cnt_mono {n a b : Nat} (h : a ≤ b) : cnt n a ≤ cnt n b := by
  obtain ⟨d, rfl⟩ := Nat.exists_eq_add_of_le h
  induction d with
  | zero => exact Nat.le_refl _
  | succ d ih => exact Nat.le_trans (ih (by omega)) (Nat.le_add_right _ _)
theorem its_put {n w k : Nat} (hk : k < w) (hb : n.testBit k = true) : (its w n)[cnt n k]? = some k := by
  have hc : cnt n k < (its w n).length := by
    rw [its_cnt]
    have := cnt_mono (n := n) (show k + 1 ≤ w by omega)
    rw [cnt_1 hb] at this; omega
  have h := List.getElem?_eq_getElem hc
  obtain ⟨h1, h2, h3⟩ := its_get h
  rw [h]
  congr 1
  generalize (its w n)[cnt n k] = j at *
  rcases Nat.lt_trichotomy j k with z | z | z
  · have := cnt_mono (n := n) (show j + 1 ≤ k by omega); rw [cnt_1 h2] at this; omega
  · exact z
  · have := cnt_mono (n := n) (show k + 1 ≤ j by omega); rw [cnt_1 hb] at this; omega
theorem in_nats (x : Nat) (l : List Nat) : inD true (.int (x : Int)) (.lst (nats l)) = some (.bl (!decide (x ∈ l))) := by
  have h2 : inL (.int (x : Int)) (nats l) = decide (x ∈ l) := by
    unfold inL nats
    induction l with
    | nil => rfl
    | cons a l ih =>
      rw [List.map_cons, List.any_cons, ih]
      show (((a : Int) == (x : Int)) || _) = _
      by_cases e : x = a
      · subst e; simp
      · have : ¬ (a : Int) = (x : Int) := by omega
        simp [this, e]
  have h1 : (nats l).all flD = true := by unfold nats; rw [List.all_map]; exact List.all_eq_true.mpr fun _ _ => rfl
  show (if flD (.int (x : Int)) = true ∧ (nats l).all flD = true then _ else none) = _
  rw [if_pos ⟨rfl, h1⟩, h2]; rfl
/-- the value of the next lot -/
def nxt (n i a : Nat) : Nat := n / 2 ^ (i + 1) * 2 ^ (i + 1) ||| 2 ^ (i + 1) ||| (2 ^ a - 1)
theorem nxt_bit {n i a : Nat} (ha : a ≤ i) (k : Nat) : (nxt n i a).testBit k = (decide (k < a) || decide (k = i + 1) || (decide (i + 1 < k) && n.testBit k)) := by
  have p : ¬ (i + 1 ≤ k ∧ k < a) := by omega
  unfold nxt
  rw [Nat.testBit_or, Nat.testBit_or, Nat.testBit_two_pow_sub_one, Nat.testBit_two_pow, Nat.testBit_mul_two_pow, Nat.testBit_div_two_pow]
  rcases Nat.lt_trichotomy (i + 1) k with z | z | z
  · simp [show i + 1 ≤ k by omega, show ¬ i + 1 = k by omega, show ¬ k < a by omega, show ¬ k = i + 1 by omega, z, show k - (i + 1) + (i + 1) = k by omega, show i + 1 + (k - (i + 1)) = k by omega]
  · simp [z]
  · simp [show ¬ i + 1 ≤ k by omega, show ¬ i + 1 = k by omega, show ¬ k = i + 1 by omega, show ¬ i + 1 < k by omega]
theorem nxt_lt {w n i a : Nat} (hn : n < 2 ^ w) (hi : i + 1 < w) (ha : a ≤ i) : nxt n i a < 2 ^ w := by
  unfold nxt
  refine Nat.or_lt_two_pow (Nat.or_lt_two_pow (Nat.lt_of_le_of_lt (Nat.div_mul_le_self _ _) hn) (Nat.pow_lt_pow_right (by omega) hi)) ?_
  have h1 : 2 ^ a ≤ 2 ^ w := Nat.pow_le_pow_right (by omega) (by omega)
  have h2 := Nat.two_pow_pos a
  omega
theorem pow_n (k : Nat) (hk : k ≤ 1000) : shlD (.int 1) (.int (k : Int)) = some (.int ((2 ^ k : Nat) : Int)) := by
  rw [shl_i ⟨by omega, by omega, by decide⟩]; simp
theorem clear_n (n k : Nat) : andD (.int (n : Int)) (.int (Builtin.bitNot (((2 ^ k : Nat) : Int) - 1))) = some (.int ((n / 2 ^ k * 2 ^ k : Nat) : Int)) := by
  rw [PL.and_i, PyProof.Rows.bitAnd_not]
  have h : Builtin.bitAnd (n : Int) (((2 ^ k : Nat) : Int) - 1) = (n : Int) % 2 ^ k := by
    have e : ((2 ^ k : Nat) : Int) - 1 = ((2 ^ k - 1 : Nat) : Int) := by have := Nat.two_pow_pos k; omega
    rw [e, and_nn, Nat.and_two_pow_sub_one_eq_mod]; simp
  rw [h]
  congr 2
  have e := Nat.div_add_mod n (2 ^ k)
  have e2 : (n : Int) % 2 ^ k = ((n % 2 ^ k : Nat) : Int) := by simp
  rw [e2]
  rw [Nat.mul_comm] at e
  omega
theorem next_ok {w n : Nat} (hw : w ≤ 40) (hn : n < 2 ^ w) : F__law_next [.int (w : Int), .int (n : Int)] = .ok .non ∨ ∃ m : Nat, m < 2 ^ w ∧ code w m = code w n + 1 ∧ F__law_next [.int (w : Int), .int (n : Int)] = .ok (.int (m : Int)) := by
  have h1 := law_items_n hw hn
  have hcw := cnt_le n w
  have hln : (nats (its w n)).length = cnt n w := by rw [nats_len, its_cnt]
  have hr : rgO 0 ((cnt n w : Nat) : Int) = .ok (rgD 0 (cnt n w)) := rgO_n (by omega)
  rcases for_ret (g := gN 3) (b := (sSeq (sSet 4 (eOp ixD (xV 2) (eV 3)))
  (sIf (eAnd (tT (eOp ltD (eOp addD (eV 4) (eC (.int 1))) (eV 0))) (tT (eOp (inD true) (eOp addD (eV 4) (eC (.int 1))) (xV 2))))
  (sRet (eOp orD (eOp orD (eOp andD (eV 1) (eX invD (eOp subD (eOp shlD (eC (.int 1)) (eOp addD (eV 4) (eC (.int 1)))) (eC (.int 1))))) (eOp shlD (eC (.int 1)) (eOp addD (eV 4) (eC (.int 1))))) (eOp subD (eOp shlD (eC (.int 1)) (eV 3)) (eC (.int 1)))))
  sNext))) (rgD 0 (cnt n w)) (fun i ρ => (∃ v3 v4, ρ = [.fz (.int (w : Int)), .fz (.int (n : Int)), .fz (.lst (nats (its w n))), v3, v4]) ∧ ∀ a k, a < i → (its w n)[a]? = some k → k + 1 < w → n.testBit (k + 1) = true)
    (ρ := [.fz (.int (w : Int)), .fz (.int (n : Int)), .fz (.lst (nats (its w n))), .un, .un]) ⟨⟨.un, .un, rfl⟩, fun a k h => absurd h (Nat.not_lt_zero _)⟩
    (fun r => ∃ m : Nat, r = .int (m : Int) ∧ m < 2 ^ w ∧ code w m = code w n + 1) (fun i d ρ hd => by
      rintro ⟨⟨v3, v4, rfl⟩, hI⟩
      obtain ⟨hi, rfl⟩ := rgD_get hd
      rw [Int.zero_add]
      refine ⟨[.fz (.int (w : Int)), .fz (.int (n : Int)), .fz (.lst (nats (its w n))), .fz (.int (i : Int)), v4], rfl, ?_⟩
      have hil : i < (its w n).length := by rw [its_cnt]; exact hi
      have hk := List.getElem?_eq_getElem hil
      generalize (its w n)[i] = k at hk
      have e1 := nats_at hk
      obtain ⟨k1, k2, k3⟩ := its_get hk
      have hin : inD true (.int ((k : Int) + 1)) (.lst (nats (its w n))) = some (.bl (!decide (k + 1 ∈ its w n))) := in_nats (k + 1) (its w n)
      by_cases a : k + 1 < w
      · have a' : (k : Int) + 1 < (w : Int) := by omega
        cases hb : n.testBit (k + 1) with
        | true =>
          have hmem : k + 1 ∈ its w n := its_mem.mpr ⟨a, hb⟩
          refine .inl ⟨[.fz (.int (w : Int)), .fz (.int (n : Int)), .fz (.lst (nats (its w n))), .fz (.int (i : Int)), .fz (.int (k : Int))], .inl (by simp [e1, a', hin, hmem]), ⟨_, _, rfl⟩, fun b k' hb' hk' hw' => ?_⟩
          by_cases z : b = i
          · subst z; rw [hk] at hk'; cases hk'; exact hb
          · exact hI b k' (by omega) hk' hw'
        | false =>
          have hmem : ¬ k + 1 ∈ its w n := fun z => by rw [(its_mem.mp z).2] at hb; cases hb
          have hik : i ≤ k := by rw [← k3]; exact cnt_le n k
          have hrun : ∀ j, j < k → n.testBit j = true → n.testBit (j + 1) = true := fun j hj hjb => by
            have g := cnt_mono (n := n) (show j + 1 ≤ k by omega)
            rw [cnt_1 hjb] at g
            exact hI (cnt n j) j (by omega) (its_put (by omega) hjb) (by omega)
          obtain ⟨g1, g2⟩ := next_up (m := nxt n k i) a k2 hb k3 hrun (nxt_bit hik)
          refine .inr ⟨.int (nxt n k i : Nat), ?_, nxt n k i, rfl, nxt_lt hn a hik, by unfold code; rw [g1, g2]; omega⟩
          have e2 : shlD (.int 1) (.int ((k : Int) + 1)) = some (.int ((2 ^ (k + 1) : Nat) : Int)) := pow_n (k + 1) (by omega)
          have e3 := pow_n i (by omega)
          have e4 := clear_n n (k + 1)
          have e5 := or_i (n / 2 ^ (k + 1) * 2 ^ (k + 1)) (2 ^ (k + 1))
          have e6 : ((2 ^ i : Nat) : Int) - 1 = ((2 ^ i - 1 : Nat) : Int) := by have := Nat.two_pow_pos i; omega
          have e7 := or_i (n / 2 ^ (k + 1) * 2 ^ (k + 1) ||| 2 ^ (k + 1)) (2 ^ i - 1)
          unfold nxt
          generalize n / 2 ^ (k + 1) * 2 ^ (k + 1) ||| 2 ^ (k + 1) ||| (2 ^ i - 1) = r3 at *
          generalize n / 2 ^ (k + 1) * 2 ^ (k + 1) ||| 2 ^ (k + 1) = r2 at *
          generalize n / 2 ^ (k + 1) * 2 ^ (k + 1) = r1 at *
          generalize 2 ^ (k + 1) = p1 at *
          generalize 2 ^ i - 1 = p2 at *
          generalize 2 ^ i = p3 at *
          simp [e1, a', hin, hmem, e2, e3, -PL.and_i, e4, -PL.or_i, e5, e6, e7]
      · have a' : ¬ (k : Int) + 1 < (w : Int) := by omega
        refine .inl ⟨[.fz (.int (w : Int)), .fz (.int (n : Int)), .fz (.lst (nats (its w n))), .fz (.int (i : Int)), .fz (.int (k : Int))], .inl (by simp [e1, a']), ⟨_, _, rfl⟩, fun b k' hb' hk' hw' => ?_⟩
        by_cases z : b = i
        · subst z; rw [hk] at hk'; cases hk'; exact absurd hw' a
        · exact hI b k' (by omega) hk' hw') with ⟨ρ', hf, ⟨v3, v4, rfl⟩, hI⟩ | ⟨r, hf, m, rfl, hm1, hm2⟩
  · rw [rgD_len] at hI
    have hrun : ∀ k, k + 1 < w → n.testBit k = true → n.testBit (k + 1) = true := fun k hk hb => by
      have g := cnt_mono (n := n) (show k + 1 ≤ w by omega)
      rw [cnt_1 hb] at g
      exact hI (cnt n k) k (by omega) (its_put (by omega) hb) hk
    by_cases hz : cnt n w = w
    · left
      generalize cnt n w = q at *
      subst hz
      simp [F__law_next, runF, B__law_next, l_litems, h1, hln, hr, hf]
    · right
      obtain ⟨g1, g2⟩ := next_size (w := w) (n := n) (by omega) hrun
      have hlt : 2 ^ (cnt n w + 1) - 1 < 2 ^ w := by
        have a1 : 2 ^ (cnt n w + 1) ≤ 2 ^ w := Nat.pow_le_pow_right (by omega) (by omega)
        have a2 := Nat.two_pow_pos (cnt n w + 1)
        omega
      refine ⟨2 ^ (cnt n w + 1) - 1, hlt, g1, ?_⟩
      have hz' : ¬ ((cnt n w : Nat) : Int) = (w : Int) := by omega
      have e2 : shlD (.int 1) (.int (((cnt n w : Nat) : Int) + 1)) = some (.int ((2 ^ (cnt n w + 1) : Nat) : Int)) := pow_n (cnt n w + 1) (by omega)
      have e6 : ((2 ^ (cnt n w + 1) : Nat) : Int) - 1 = ((2 ^ (cnt n w + 1) - 1 : Nat) : Int) := by have := Nat.two_pow_pos (cnt n w + 1); omega
      generalize 2 ^ (cnt n w + 1) - 1 = p2 at *
      generalize 2 ^ (cnt n w + 1) = p3 at *
      generalize cnt n w = q at *
      simp [F__law_next, runF, B__law_next, l_litems, h1, hln, hr, hf, hz', e2, e6]
  · right
    refine ⟨m, hm1, hm2, ?_⟩
    generalize cnt n w = q at *
    simp [F__law_next, runF, B__law_next, l_litems, h1, hln, hr, hf]
end K80

/-! k80: what the functions compute, fourth part -/
namespace K80
open PySem PL PL.M
/-! ### a drawn lot -/
theorem cnt_put (n j : Nat) : ∀ b, cnt (n ||| 2 ^ j) b ≤ cnt n b + if j < b then 1 else 0
  | 0 => by simp [cnt]
  | b + 1 => by
    have ih := cnt_put n j b
    by_cases e : j = b
    · subst e
      rw [if_neg (Nat.lt_irrefl _)] at ih
      rw [if_pos (by omega)]
      have h1 : cnt (n ||| 2 ^ j) (j + 1) ≤ cnt (n ||| 2 ^ j) j + 1 := by rw [cnt]; split <;> omega
      have h2 := cnt_mono (n := n) (show j ≤ j + 1 by omega)
      omega
    · have hb : (n ||| 2 ^ j).testBit b = n.testBit b := by rw [bit_or]; simp [e]
      have hif : (if j < b + 1 then 1 else 0) = (if j < b then 1 else 0) := by
        by_cases z : j < b
        · rw [if_pos z, if_pos (by omega)]
        · rw [if_neg z, if_neg (by omega)]
      rw [hif, cnt, cnt, hb]
      omega
def dsz : List Nat := 41 :: List.replicate 40 40
theorem dsz_len : dsz.length = 41 := rfl
theorem dsz_pos : ∀ s ∈ dsz, 0 < s ∧ s < 1000000000 := by decide
theorem dsz_0 : dsz[0]? = some 41 := rfl
theorem drawn_ok (c : Int) {w many : Nat} (hw0 : 0 < w) (hw : w ≤ 40) (hm : many ≤ 40) : ∃ lot : Nat, lot < 2 ^ w ∧ cnt lot w ≤ many ∧ F__law_drawn_state [.int c, .int (w : Int), .int (many : Int)] = .ok (.int (lot : Int)) := by
  obtain ⟨row, ⟨hrl, hrow⟩, hdig⟩ := digits_ex c dsz dsz_pos (by rw [dsz_len]; decide)
  obtain ⟨r0, hr0, hr0'⟩ := hrow 0 41 dsz_0
  have g0 := nats_at hr0
  have hget : ∀ i : Nat, i < 40 → ∃ r, row[i + 1]? = some r := fun i hi => by
    rw [dsz_len] at hrl
    exact ⟨row[i + 1], List.getElem?_eq_getElem (by omega)⟩
  obtain ⟨t, ht, et⟩ := mod_nat (r0 : Int) (many + 1) (by omega)
  have em : modD (.int (r0 : Int)) (.int ((many : Int) + 1)) = some (.int (t : Int)) := by
    rw [mod_i (by omega)]; rw [← et]; rfl
  obtain ⟨ρ', hf, lot, v, hl1, hl2, rfl⟩ := for_r0 (g := gN 5) (b := sSet 4 (eOp orD (eV 4) (eOp shlD (eC (.int 1)) (eOp modD (eOp ixD (xV 3) (eOp addD (eC (.int 1)) (eV 5))) (eV 1))))) (n := t)
    (fun i ρ => ∃ (lot : Nat) (v : SV), lot < 2 ^ w ∧ cnt lot w ≤ i ∧ ρ = [.fz (.int c), .fz (.int (w : Int)), .fz (.int (many : Int)), .fz (.lst (nats row)), .fz (.int (lot : Int)), v])
    (ρ := [.fz (.int c), .fz (.int (w : Int)), .fz (.int (many : Int)), .fz (.lst (nats row)), .fz (.int 0), .un]) ⟨0, .un, Nat.two_pow_pos w, by rw [(no_bits (n := 0) w fun k _ => Nat.zero_testBit k).1]; exact Nat.zero_le _, rfl⟩ (fun i ρ hi => by
      rintro ⟨lot, v, h1, h2, rfl⟩
      obtain ⟨r, hr⟩ := hget i (by omega)
      have e1 : L2.atI (nats row) (1 + (i : Int)) = some (.int (r : Int)) := by
        have := nats_at hr
        rwa [show ((i + 1 : Nat) : Int) = 1 + (i : Int) by omega] at this
      obtain ⟨j, hj, ej⟩ := mod_nat (r : Int) w hw0
      have e2 : modD (.int (r : Int)) (.int (w : Int)) = some (.int (j : Int)) := by rw [mod_i (by omega), ej]
      have e3 := pow_n j (by omega)
      have e4 := or_i lot (2 ^ j)
      have hc := cnt_put lot j w
      rw [if_pos hj] at hc
      refine ⟨[.fz (.int c), .fz (.int (w : Int)), .fz (.int (many : Int)), .fz (.lst (nats row)), .fz (.int (lot : Int)), .fz (.int (i : Int))], [.fz (.int c), .fz (.int (w : Int)), .fz (.int (many : Int)), .fz (.lst (nats row)), .fz (.int ((lot ||| 2 ^ j : Nat) : Int)), .fz (.int (i : Int))], rfl, .inl ?_, lot ||| 2 ^ j, _, Nat.or_lt_two_pow h1 (Nat.pow_lt_pow_right (by omega) hj), by omega, rfl⟩
      generalize lot ||| 2 ^ j = q at *
      generalize 2 ^ j = p at *
      simp [e1, e2, e3, -PL.or_i, e4])
  refine ⟨lot, hl1, by omega, ?_⟩
  have hr : rgO 0 (t : Int) = .ok (rgD 0 t) := rgO_n (by omega)
  have hmul : mulD (.lst [.int 40]) (.int 40) = some (.lst (nats (List.replicate 40 40))) := by rw [mul_lst (by decide)]; rfl
  have hadd : addD (.lst [.int 41]) (.lst (nats (List.replicate 40 40))) = some (.lst (nats dsz)) := by rw [add_lst (by decide)]; rfl
  have ho : ∀ i : Int, okL [D.int i] = true := fun i => okL_of (Nat.le_of_ble_eq_true rfl)
  have g0' : L2.atI (nats row) 0 = some (.int (r0 : Int)) := g0
  generalize nats (List.replicate 40 40) = Z at *
  generalize nats dsz = Z2 at *
  simp [F__law_drawn_state, runF, B__law_drawn_state, ho, hmul, hadd, l_digits, hdig, g0', em, hr, hf]
/-! ### refusals -/
@[simp] theorem e_xi (a CA : Addr) (d : Option Addr) (i : Nat) (isa : Str → Option Bool) (ρ : PEnv) : eXi a CA d i isa ρ = match ρ[i]? with
  | some (.exn a' d' CA' C _) => if a' = a ∧ d' = d ∧ CA' = CA then ofO ((isa C).map .bl) else .bad
  | _ => .bad := rfl
@[simp] theorem e_xf (a CA : Addr) (d : Option Addr) (i : Nat) (n : Str) (ρ : PEnv) : eXf a CA d i n ρ = match ρ[i]? with
  | some (.exn a' d' CA' C fs) => if a' = a ∧ d' = d ∧ CA' = CA then ofO (fs.lookup n) else .bad
  | _ => .bad := rfl
theorem i_bb : isa_BadLot "BadLot" = some true := rfl
theorem i_nb : isa_NoSuchNumber "BadLot" = some false := rfl
theorem i_bn : isa_BadLot "NoSuchNumber" = some false := rfl
theorem i_nn : isa_NoSuchNumber "NoSuchNumber" = some true := rfl
theorem refused_lot {w many x : D} (h : F_state_code [w, many, x] = .ex "BadLot" [("lot", x)]) (ha : PL.M.F__law_alike [x, x] = .ok (.bl true)) : F__law_refused [.int 0, w, many, x] = .ok (.bl true) := by
  have ht : sTry 4 sub_err (sIf (tT (eOp eqDD (eV 0) (eC (.int 0))))
      (sDrop (eFn 3 F_state_code (eCons (eV 1) (eCons (eV 2) (eCons (eV 3) eNil)))))
      (sIf (tT (eOp eqDD (eV 0) (eC (.int 1))))
      (sDrop (eFn 3 F_coded_state (eCons (eV 1) (eCons (eV 2) (eCons (eV 3) eNil)))))
      (sIf (tT (eOp eqDD (eV 0) (eC (.int 2))))
      (sDrop (eFn 4 F_joined_codes (eCons (eV 1) (eCons (eV 2) (eCons (eV 3) (eCons (eC (.int 0)) eNil))))))
      (sIf (tT (eOp eqDD (eV 0) (eC (.int 3))))
      (sDrop (eFn 4 F_joined_codes (eCons (eV 1) (eCons (eV 2) (eCons (eC (.int 0)) (eCons (eV 3) eNil))))))
      (sDrop (eFn 4 F_joined_codes (eCons (eV 1) (eCons (eV 2) (eCons (eV 3) (eCons (eX negD (eC (.int 2))) eNil))))))))))
      (fun a CA d => (sSeq (sIf (tT (eOp eqDD (eV 0) (eC (.int 0))))
      (sRet (eAndV (eXi a CA d 4 isa_BadLot) (eAndV (eNotV (eXi a CA d 4 isa_NoSuchNumber)) (eFn 2 F__law_alike (eCons (eXf a CA d 4 "lot") (eCons (eV 3) eNil))))))
      sNext)
      (sRet (eAndV (eXi a CA d 4 isa_NoSuchNumber) (eAndV (eNotV (eXi a CA d 4 isa_BadLot)) (eFn 2 F__law_alike (eCons (eXf a CA d 4 "number") (eCons (eV 3) eNil))))))))
    [.fz (.int 0), .fz w, .fz many, .fz x, .un] = .rt (.bl true) :=
    sTry_ex (C := "BadLot") (fs := [("lot", x)]) (ρ' := [.fz (.int 0), .fz w, .fz many, .fz x, .un]) (by simp [h]) rfl fun a CA d => by
      simp [i_bb, i_nb, i_bn, i_nn, l_alike, ha, List.lookup, sTry.unI]
  simp [F__law_refused, runF, B__law_refused, ht]
theorem refused_num {way : Int} {w many x : D} (hway : way ≠ 0)
    (h : (way = 1 ∧ F_coded_state [w, many, x] = .ex "NoSuchNumber" [("number", x)]) ∨ (way = 2 ∧ F_joined_codes [w, many, x, .int 0] = .ex "NoSuchNumber" [("number", x)]) ∨ (way = 3 ∧ F_joined_codes [w, many, .int 0, x] = .ex "NoSuchNumber" [("number", x)]) ∨ (way = 4 ∧ F_joined_codes [w, many, x, .int (-2)] = .ex "NoSuchNumber" [("number", x)]))
    (ha : PL.M.F__law_alike [x, x] = .ok (.bl true)) : F__law_refused [.int way, w, many, x] = .ok (.bl true) := by
  have ht : sTry 4 sub_err (sIf (tT (eOp eqDD (eV 0) (eC (.int 0))))
      (sDrop (eFn 3 F_state_code (eCons (eV 1) (eCons (eV 2) (eCons (eV 3) eNil)))))
      (sIf (tT (eOp eqDD (eV 0) (eC (.int 1))))
      (sDrop (eFn 3 F_coded_state (eCons (eV 1) (eCons (eV 2) (eCons (eV 3) eNil)))))
      (sIf (tT (eOp eqDD (eV 0) (eC (.int 2))))
      (sDrop (eFn 4 F_joined_codes (eCons (eV 1) (eCons (eV 2) (eCons (eV 3) (eCons (eC (.int 0)) eNil))))))
      (sIf (tT (eOp eqDD (eV 0) (eC (.int 3))))
      (sDrop (eFn 4 F_joined_codes (eCons (eV 1) (eCons (eV 2) (eCons (eC (.int 0)) (eCons (eV 3) eNil))))))
      (sDrop (eFn 4 F_joined_codes (eCons (eV 1) (eCons (eV 2) (eCons (eV 3) (eCons (eX negD (eC (.int 2))) eNil))))))))))
      (fun a CA d => (sSeq (sIf (tT (eOp eqDD (eV 0) (eC (.int 0))))
      (sRet (eAndV (eXi a CA d 4 isa_BadLot) (eAndV (eNotV (eXi a CA d 4 isa_NoSuchNumber)) (eFn 2 F__law_alike (eCons (eXf a CA d 4 "lot") (eCons (eV 3) eNil))))))
      sNext)
      (sRet (eAndV (eXi a CA d 4 isa_NoSuchNumber) (eAndV (eNotV (eXi a CA d 4 isa_BadLot)) (eFn 2 F__law_alike (eCons (eXf a CA d 4 "number") (eCons (eV 3) eNil))))))))
    [.fz (.int way), .fz w, .fz many, .fz x, .un] = .rt (.bl true) :=
    sTry_ex (C := "NoSuchNumber") (fs := [("number", x)]) (ρ' := [.fz (.int way), .fz w, .fz many, .fz x, .un]) (by
      rcases h with ⟨rfl, h⟩ | ⟨rfl, h⟩ | ⟨rfl, h⟩ | ⟨rfl, h⟩ <;> simp [h]) rfl fun a CA d => by
      simp [hway, i_bb, i_nb, i_bn, i_nn, l_alike, ha, List.lookup, sTry.unI]
  simp [F__law_refused, runF, B__law_refused, ht]
/-! ### size order -/
def so (w : Nat) : Nat → List Nat
  | 0 => []
  | i + 1 => so w i ++ (List.range (2 ^ w)).filter fun n => cnt n w == i
theorem so_mem {w n : Nat} : ∀ i, n ∈ so w i ↔ n < 2 ^ w ∧ cnt n w < i
  | 0 => by simp [so]
  | i + 1 => by
    rw [so, List.mem_append, so_mem i, List.mem_filter, List.mem_range]
    simp
    omega
theorem so_len (w : Nat) : ∀ i, (so w i).length ≤ i * 2 ^ w
  | 0 => Nat.zero_le _
  | i + 1 => by
    rw [so, List.length_append, Nat.succ_mul]
    have h1 := so_len w i
    have h2 := List.length_filter_le (fun n => cnt n w == i) (List.range (2 ^ w))
    rw [List.length_range] at h2
    omega
theorem size_order_ok {w : Nat} (hw : w ≤ 6) : F__law_size_order [.int (w : Int)] = .ok (.lst (nats (so w (w + 1)))) := by
  have hp := pow_n w (by omega)
  have h64 : 2 ^ w ≤ 64 := Nat.le_trans (Nat.pow_le_pow_right (by omega) hw) (by decide)
  have hr2 : rgO 0 ((2 ^ w : Nat) : Int) = .ok (rgD 0 (2 ^ w)) := rgO_n (by omega)
  have hr1 := rgO_s (n := w) (by omega)
  obtain ⟨ρ', hf, v, rfl⟩ := for_r0 (g := gN 3) (b := sSet 2 (eOp addD (eV 2) (nl (cLc [4] (iR1 (eCons (eV 1) eNil)) (gN 4) (tT (eOp eqDD (eFn 1 F__law_count (eCons (eV 4) eNil)) (eV 3))) (eV 4))))) (n := w + 1)
    (fun i ρ => ∃ v, ρ = [.fz (.int (w : Int)), .fz (.int ((2 ^ w : Nat) : Int)), .fz (.lst (nats (so w i))), v, .un])
    (ρ := [.fz (.int (w : Int)), .fz (.int ((2 ^ w : Nat) : Int)), .fz (.lst (nats [])), .un, .un]) ⟨.un, rfl⟩ (fun i ρ hi => by
      rintro ⟨v, rfl⟩
      have hc := comp_rg (g := gN 4) (t := tT (eOp eqDD (eFn 1 F__law_count (eCons (eV 4) eNil)) (eV 3))) (e := eV 4) (ρ := [.fz (.int (w : Int)), .fz (.int ((2 ^ w : Nat) : Int)), .fz (.lst (nats (so w i))), .fz (.int (i : Int)), .un])
        (fun n => cnt n w == i) (fun k => .int (k : Int)) (2 ^ w) fun k hk => ⟨[.fz (.int (w : Int)), .fz (.int ((2 ^ w : Nat) : Int)), .fz (.lst (nats (so w i))), .fz (.int (i : Int)), .fz (.int (k : Int))], rfl, by
          have := law_count_n (w := w) (by omega) hk
          generalize cnt k w = q at *
          simp [l_count, this]
          rw [Bool.eq_iff_iff, beq_iff_eq, beq_iff_eq]; omega, fun _ => by simp⟩
      have hl0 := so_len w i
      have hl1 : i * 2 ^ w ≤ 6 * 64 := Nat.mul_le_mul (by omega) h64
      have hl2 := List.length_filter_le (fun n => cnt n w == i) (List.range (2 ^ w))
      rw [List.length_range] at hl2
      have hll : okL (nats ((List.range (2 ^ w)).filter fun n => cnt n w == i)) = true := okL_of (by rw [nats_len]; omega)
      have hadd : addD (.lst (nats (so w i))) (.lst (nats ((List.range (2 ^ w)).filter fun n => cnt n w == i))) = some (.lst (nats (so w (i + 1)))) := by
        rw [add_lst (by rw [nats_len, nats_len]; omega), ← nats_app]; rfl
      change compF _ _ _ _ _ = some (nats ((List.range (2 ^ w)).filter fun n => cnt n w == i)) at hc
      refine ⟨[.fz (.int (w : Int)), .fz (.int ((2 ^ w : Nat) : Int)), .fz (.lst (nats (so w i))), .fz (.int (i : Int)), .un], [.fz (.int (w : Int)), .fz (.int ((2 ^ w : Nat) : Int)), .fz (.lst (nats (so w (i + 1)))), .fz (.int (i : Int)), .un], rfl, .inl ?_, _, rfl⟩
      generalize nats ((List.range (2 ^ w)).filter fun n => cnt n w == i) = L at *
      generalize 2 ^ w = p at *
      simp [hr2, hc, hll, hadd])
  have ho : okL [] = true := okL_of (Nat.zero_le _)
  rw [nats_nil] at hf
  generalize 2 ^ w = p at *
  simp [F__law_size_order, runF, B__law_size_order, hp, ho, hr1, hf]
/-- the lots of one size have the codes one after another -/
theorem size_codes : ∀ w, w ≤ 6 → ∀ i, i ≤ w → ((List.range (2 ^ w)).filter fun n => cnt n w == i).map (fun n => cd n w) = List.range (ch w i) := by decide +kernel
theorem so_codes {w : Nat} (hw : w ≤ 6) : ∀ i, i ≤ w + 1 → (so w i).map (code w) = List.range (base w i)
  | 0, _ => rfl
  | i + 1, hi => by
    rw [so, List.map_append, so_codes hw i (by omega), base, List.range_add, ← size_codes w hw i (by omega), List.map_map]
    congr 1
    apply List.map_congr_left
    intro n hn
    obtain ⟨_, h2⟩ := List.mem_filter.mp hn
    show code w n = base w i + cd n w
    unfold code
    rw [eq_of_beq h2]
theorem so_filter {w few : Nat} : ∀ i, (so w i).filter (fun n => decide (cnt n w ≤ few)) = so w (min i (few + 1))
  | 0 => by simp [so]
  | i + 1 => by
    rw [so, List.filter_append, so_filter i, List.filter_filter]
    by_cases h : i ≤ few
    · rw [show min i (few + 1) = i by omega, show min (i + 1) (few + 1) = i + 1 by omega, so]
      congr 1
      apply List.filter_congr
      intro n _
      by_cases e : cnt n w = i
      · simp [e, h]
      · simp [e]
    · rw [show min i (few + 1) = few + 1 by omega, show min (i + 1) (few + 1) = few + 1 by omega]
      have : (List.range (2 ^ w)).filter (fun a => decide (cnt a w ≤ few) && (cnt a w == i)) = [] := by
        apply List.filter_eq_nil_iff.mpr
        intro n _
        simp
        omega
      rw [this, List.append_nil]
end K80

/-! k80: the law holds -/
namespace K80
open PySem PL PL.M
noncomputable def L1 : PEnv → Out := (sSeq (sIf (eNot (tT (eFn 2 F__law_alike (eCons (nl (eLst (eCons (eFn 3 F_state_code (eCons (eV 2) (eCons (eV 3) (eCons (eOp ixD (xV 4) (eV 5)) eNil)))) (eCons (eFn 3 F_coded_state (eCons (eV 2) (eCons (eV 3) (eCons (eV 5) eNil)))) eNil)))) (eCons (nl (eLst (eCons (eV 5) (eCons (eOp ixD (xV 4) (eV 5)) eNil)))) eNil)))))
  (sRet (eC (.bl false)))
  sNext)
  (sSeq (sSet 19 (eOp modD (eOp addD (eOp ixD (xV 1) (eC (.int 4))) (eOp mulD (eC (.int 3)) (eV 5))) (eX lenD (xV 4))))
  (sSeq (sSet 20 (eIdx (xV 4) (eFn 2 F__law_top (eCons (eOp orD (eOp ixD (xV 4) (eV 5)) (eOp ixD (xV 4) (eV 19))) (eCons (eV 3) eNil)))))
  (sIf (eNot (tT (eFn 2 F__law_alike (eCons (nl (eLst (eCons (eFn 4 F_joined_codes (eCons (eV 2) (eCons (eV 3) (eCons (eV 5) (eCons (eV 19) eNil))))) (eCons (eFn 4 F_joined_codes (eCons (eV 2) (eCons (eV 3) (eCons (eV 19) (eCons (eV 5) eNil))))) eNil)))) (eCons (nl (eLst (eCons (eV 20) (eCons (eV 20) eNil)))) eNil)))))
  (sRet (eC (.bl false)))
  sNext))))
noncomputable def L2 : PEnv → Out := (sSeq (sSet 21 (eFn 3 F_state_code (eCons (eV 6) (eCons (eV 7) (eCons (eV 13) eNil)))))
  (sSeq (sIf (eOr (eNot (tT (eFn 1 F__law_whole (eCons (eV 21) eNil)))) (eOr (tT (eOp neDD (eV 21) (eFn 3 F__law_code (eCons (eV 8) (eCons (eV 6) (eCons (eV 13) eNil)))))) (eNot (tT (eFn 2 F__law_alike (eCons (eFn 3 F_coded_state (eCons (eV 6) (eCons (eV 7) (eCons (eV 21) eNil)))) (eCons (eV 13) eNil)))))))
  (sRet (eC (.bl false)))
  sNext)
  (sSeq (sSet 22 (eFn 2 F__law_next (eCons (eV 6) (eCons (eV 13) eNil))))
  (sSeq (sIf (eAnd (tT (eOp notN (eV 22) (eC .non))) (eAnd (tT (eOp leD (eFn 1 F__law_count (eCons (eV 22) eNil)) (eV 7))) (eNot (tT (eFn 2 F__law_alike (eCons (eFn 3 F_state_code (eCons (eV 6) (eCons (eV 7) (eCons (eV 22) eNil)))) (eCons (eOp addD (eV 21) (eC (.int 1))) eNil)))))))
  (sRet (eC (.bl false)))
  sNext)
  (sApp 12 (eV 21))))))
noncomputable def L3 : PEnv → Out := (sSeq (sSet 20 (eFn 2 F__law_top (eCons (eOp orD (eOp ixD (xV 11) (eV 16)) (eOp ixD (xV 11) (eOp modD (eOp addD (eV 16) (eC (.int 1))) (eC (.int 4))))) (eCons (eV 7) eNil))))
  (sSeq (sSet 23 (eFn 4 F_joined_codes (eCons (eV 6) (eCons (eV 7) (eCons (eOp ixD (xV 12) (eV 16)) (eCons (eOp ixD (xV 12) (eOp modD (eOp addD (eV 16) (eC (.int 1))) (eC (.int 4)))) eNil))))))
  (sIf (eOr (eNot (tT (eFn 1 F__law_whole (eCons (eV 23) eNil)))) (tT (eOp neDD (eV 23) (eFn 3 F__law_code (eCons (eV 8) (eCons (eV 6) (eCons (eV 20) eNil)))))))
  (sRet (eC (.bl false)))
  sNext)))
noncomputable def L4 : PEnv → Out := (sIf (eNot (tT (eFn 1 F__law_bits_right (eCons (eV 17) eNil))))
  (sRet (eC (.bl false)))
  sNext)
noncomputable def L5 : PEnv → Out := (sIf (eNot (tT (eX allD (nl (cLc [25] (iR2 (eCons (eC (.int 1)) (eCons (eC (.int 5)) eNil))) (gN 25) (fun _ => .ok true) (eFn 4 F__law_refused (eCons (eV 25) (eCons (eV 6) (eCons (eV 7) (eCons (eV 18) eNil))))))))))
  (sRet (eC (.bl false)))
  sNext)
noncomputable def T3 : PEnv → Out := (sSeq (sIf (eOr (tT (eOp neDD (eOp ixD (xV 12) (eC (.int 4))) (eC (.int 0)))) (tT (eOp neDD (eOp ixD (xV 12) (eC (.int 5))) (eOp subD (eV 10) (eC (.int 1))))))
  (sRet (eC (.bl false)))
  sNext)
  (sSeq (sSet 14 (eOp modD (eB intD (eCons (eFn 2 F__law_cell (eCons (eV 0) (eCons (eC (.int 6)) eNil))) eNil)) (eV 10)))
  (sSeq (sSet 15 (eFn 3 F_coded_state (eCons (eV 6) (eCons (eV 7) (eCons (eV 14) eNil)))))
  (sSeq (sIf (eOr (eNot (tT (eFn 1 F__law_whole (eCons (eV 15) eNil)))) (eOr (tT (eOp ltD (eV 15) (eC (.int 0)))) (eOr (tT (eOp geD (eV 15) (eOp shlD (eC (.int 1)) (eV 6)))) (eOr (tT (eOp gtD (eFn 1 F__law_count (eCons (eV 15) eNil)) (eV 7))) (tT (eOp neDD (eFn 3 F__law_code (eCons (eV 8) (eCons (eV 6) (eCons (eV 15) eNil)))) (eV 14)))))))
  (sRet (eC (.bl false)))
  sNext)
  (sSeq (sFor (iR1 (eCons (eC (.int 4)) eNil)) (gN 16) L3)
  (sSeq (sFor (iSq (nl (eLst (eCons (eC (.int 1)) (eCons (eC (.int 2)) (eCons (eC (.int 3)) (eCons (eOp addD (eOp ixD (xV 1) (eC (.int 4))) (eC (.int 1))) (eCons (eV 10) (eCons (eOp addD (eV 10) (eOp ixD (xV 1) (eC (.int 5)))) (eCons (eOp shlD (eC (.int 1)) (eOp ixD (xV 1) (eC (.int 5)))) (eCons (eOp addD (eOp shlD (eC (.int 1)) (eOp ixD (xV 1) (eC (.int 5)))) (eC (.int 1))) eNil))))))))))) (gN 17) L4)
  (sSeq (sFor (iSq (nl (eLst (eCons (eX negD (eC (.int 1))) (eCons (eV 10) (eCons (eOp addD (eV 10) (eOp ixD (xV 1) (eC (.int 4)))) (eCons (eC (.bl true)) eNil))))))) (gN 18) L5)
  (sSeq (sIf (eAnd (tT (eOp ltD (eV 7) (eV 6))) (eNot (tT (eFn 4 F__law_refused (eCons (eC (.int 0)) (eCons (eV 6) (eCons (eV 7) (eCons (eOp subD (eOp shlD (eC (.int 1)) (eOp addD (eV 7) (eC (.int 1)))) (eC (.int 1))) eNil))))))))
  (sRet (eC (.bl false)))
  sNext)
  (sRet (eAndV (eFn 4 F__law_refused (eCons (eC (.int 0)) (eCons (eV 6) (eCons (eV 7) (eCons (eOp shlD (eC (.int 1)) (eV 6)) eNil))))) (eAndV (eFn 4 F__law_refused (eCons (eC (.int 0)) (eCons (eV 6) (eCons (eV 7) (eCons (eX negD (eC (.int 1))) eNil))))) (eFn 4 F__law_refused (eCons (eC (.int 0)) (eCons (eV 6) (eCons (eV 7) (eCons (eC (.bl true)) eNil))))))))))))))))
noncomputable def T2 : PEnv → Out := (sSeq (sSet 6 (eOp ixD (nl (eLst (eCons (eC (.int 40)) (eCons (eC (.int 7)) (eCons (eC (.int 12)) (eCons (eC (.int 33)) (eCons (eC (.int 20)) (eCons (eC (.int 9)) (eCons (eC (.int 40)) (eCons (eC (.int 16)) (eCons (eC (.int 25)) (eCons (eC (.int 8)) (eCons (eC (.int 30)) (eCons (eC (.int 10)) eNil)))))))))))))) (eOp ixD (xV 1) (eC (.int 2)))))
  (sSeq (sSet 7 (eOp addD (eC (.int 1)) (eOp modD (eOp ixD (xV 1) (eC (.int 3))) (eV 6))))
  (sSeq (sSet 8 (eF0 F__law_triangle))
  (sSeq (sSet 9 (eOp ixD (xV 8) (eV 6)))
  (sSeq (sSet 10 (eX sumD (nl (cLc [24] (iR1 (eCons (eOp addD (eV 7) (eC (.int 1))) eNil)) (gN 24) (fun _ => .ok true) (eOp ixD (xV 9) (eV 24))))))
  (sSeq (sSet 11 (eOp addD (nl (cLc [16] (iR1 (eCons (eC (.int 4)) eNil)) (gN 16) (fun _ => .ok true) (eFn 3 F__law_drawn_state (eCons (eFn 2 F__law_cell (eCons (eV 0) (eCons (eOp addD (eC (.int 1)) (eV 16)) eNil))) (eCons (eV 6) (eCons (eV 7) eNil)))))) (nl (eLst (eCons (eC (.int 0)) (eCons (eOp shlD (eOp subD (eOp shlD (eC (.int 1)) (eV 7)) (eC (.int 1))) (eOp subD (eV 6) (eV 7))) eNil))))))
  (sSeq (sSetN 12 (eLst eNil))
  (sSeq (sFor (iSq (eV 11)) (gN 13) L2)
  T3))))))))
theorem b_law : B_law = (sSeq (sSet 1 (eFn 2 F__law_digits (eCons (eFn 2 F__law_cell (eCons (eV 0) (eCons (eC (.int 0)) eNil))) (eCons (nl (eLst (eCons (eC (.int 6)) (eCons (eC (.int 6)) (eCons (eC (.int 12)) (eCons (eC (.int 40)) (eCons (eC (.int 997)) (eCons (eC (.int 64)) eNil)))))))) eNil))))
  (sSeq (sSet 2 (eOp addD (eC (.int 1)) (eOp ixD (xV 1) (eC (.int 0)))))
  (sSeq (sSet 3 (eOp addD (eC (.int 1)) (eOp modD (eOp ixD (xV 1) (eC (.int 1))) (eV 2))))
  (sSeq (sSet 4 (nl (cLc [13] (iSq (eFn 1 F__law_size_order (eCons (eV 2) eNil))) (gN 13) (tT (eOp leD (eFn 1 F__law_count (eCons (eV 13) eNil)) (eV 3))) (eV 13))))
  (sSeq (sIf (eNot (tT (eFn 2 F__law_alike (eCons (eFn 2 F_top_states (eCons (eV 2) (eCons (eV 3) eNil))) (eCons (eX lenD (xV 4)) eNil)))))
  (sRet (eC (.bl false)))
  sNext)
  (sSeq (sFor (iR1 (eCons (eX lenD (xV 4)) eNil)) (gN 5) L1)
  T2)))))) := rfl
theorem al_i (i : Int) : F__law_alike [.int i, .int i] = .ok (.bl true) := alike_same (.int i) (by decide)
theorem al_b (b : Bool) : F__law_alike [.bl b, .bl b] = .ok (.bl true) := alike_same (.bl b) (by decide)
theorem al_2 (i j : Int) : F__law_alike [.lst [.int i, .int j], .lst [.int i, .int j]] = .ok (.bl true) := alike_same (.lst (.cons (.int i) (.cons (.int j) .nil))) (by decide)
theorem ok_1 (x : D) : okL [x] = true := okL_of (by simp)
theorem ok_2 (x y : D) : okL [x, y] = true := okL_of (by simp)
theorem idx_nats : ∀ {L : List Nat} {x : Nat}, x ∈ L → ∃ j : Nat, idxL (.int (x : Int)) (nats L) = some j ∧ L[j]? = some x
  | a :: L, x, h => by
    rw [nats_cons]
    unfold idxL
    by_cases e : a = x
    · subst e
      exact ⟨0, by rw [if_pos (by show ((a : Int) == (a : Int)) = true; simp)], rfl⟩
    · have : x ∈ L := by
        rcases List.mem_cons.mp h with h | h
        · exact absurd h.symm e
        · exact h
      obtain ⟨j, h1, h2⟩ := idx_nats this
      exact ⟨j + 1, by rw [if_neg (by show ¬ ((a : Int) == (x : Int)) = true; simp; omega), h1]; rfl, by rw [List.getElem?_cons_succ]; exact h2⟩
theorem idxD_nats {L : List Nat} {x : Nat} (h : x ∈ L) : ∃ j : Nat, idxD (nats L) (.int (x : Int)) = some (.int (j : Int)) ∧ L[j]? = some x := by
  obtain ⟨j, h1, h2⟩ := idx_nats h
  refine ⟨j, ?_, h2⟩
  have h3 : (nats L).all flD = true := by unfold nats; rw [List.all_map]; exact List.all_eq_true.mpr fun _ _ => rfl
  unfold idxD
  rw [if_pos ⟨rfl, h3⟩, h1]; rfl
theorem so_at {w few i : Nat} (hw : w ≤ 6) (hf : few ≤ w) (hi : i < base w (few + 1)) : ∃ lot, (so w (few + 1))[i]? = some lot ∧ lot < 2 ^ w ∧ cnt lot w ≤ few ∧ code w lot = i := by
  have hc := so_codes hw (few + 1) (by omega)
  have hl : (so w (few + 1)).length = base w (few + 1) := by
    have := congrArg List.length hc
    rwa [List.length_map, List.length_range] at this
  have hi' : i < (so w (few + 1)).length := by omega
  have hm := (so_mem (w := w) (few + 1)).mp (List.getElem_mem hi')
  refine ⟨(so w (few + 1))[i], List.getElem?_eq_getElem hi', hm.1, by omega, ?_⟩
  have h2 := congrArg (fun l => l[i]?) hc
  simp only [List.getElem?_map, List.getElem?_eq_getElem hi', List.getElem?_range hi] at h2
  simpa using h2
theorem so_length {w few : Nat} (hw : w ≤ 6) (hf : few ≤ w) : (so w (few + 1)).length = base w (few + 1) := by
  have := congrArg List.length (so_codes hw (few + 1) (by omega))
  rwa [List.length_map, List.length_range] at this
theorem base_pos (w many : Nat) : 0 < base w (many + 1) := by
  have h := base_mono (w := w) (show 1 ≤ many + 1 by omega)
  have : base w 1 = 1 := by rw [base, base, ch_0]
  omega
theorem base_le (w : Nat) : ∀ s, base w s ≤ s * 2 ^ w
  | 0 => Nat.zero_le _
  | s + 1 => by rw [base, Nat.succ_mul]; have := base_le w s; have := ch_le_two w s; omega
theorem loop1 {a0 a5 a6 a7 a8 a9 a10 a11 a12 a13 a14 a15 a16 a17 a18 a19 a20 a21 a22 a23 a24 a25  : SV} {row : List Nat} {sm few r4 : Nat} (hsm : sm ≤ 6) (hfew : few ≤ sm) (h4 : row[4]? = some r4) (hr4 : r4 < 1000) :
    ∃ v5 v19 v20, forF (gN 5) L1 (rgD 0 (base sm (few + 1))) [a0, .fz (.lst (nats row)), .fz (.int (sm : Int)), .fz (.int (few : Int)), .fz (.lst (nats (so sm (few + 1)))), a5, a6, a7, a8, a9, a10, a11, a12, a13, a14, a15, a16, a17, a18, a19, a20, a21, a22, a23, a24, a25] = .nx [a0, .fz (.lst (nats row)), .fz (.int (sm : Int)), .fz (.int (few : Int)), .fz (.lst (nats (so sm (few + 1)))), v5, a6, a7, a8, a9, a10, a11, a12, a13, a14, a15, a16, a17, a18, v19, v20, a21, a22, a23, a24, a25] := by
  have hbp := base_pos sm few
  have hg4 : L2.atI (nats row) 4 = some (.int (r4 : Int)) := nats_at h4
  have hlen : (nats (so sm (few + 1))).length = base sm (few + 1) := by rw [nats_len, so_length hsm hfew]
  obtain ⟨ρ', hf, v5, v19, v20, rfl⟩ := for_r0 (g := gN 5) (b := L1) (n := base sm (few + 1))
    (fun i ρ => ∃ v5 v19 v20, ρ = [a0, .fz (.lst (nats row)), .fz (.int (sm : Int)), .fz (.int (few : Int)), .fz (.lst (nats (so sm (few + 1)))), v5, a6, a7, a8, a9, a10, a11, a12, a13, a14, a15, a16, a17, a18, v19, v20, a21, a22, a23, a24, a25]) (ρ := [a0, .fz (.lst (nats row)), .fz (.int (sm : Int)), .fz (.int (few : Int)), .fz (.lst (nats (so sm (few + 1)))), a5, a6, a7, a8, a9, a10, a11, a12, a13, a14, a15, a16, a17, a18, a19, a20, a21, a22, a23, a24, a25]) ⟨_, _, _, rfl⟩ (fun i ρ hi => by
      rintro ⟨v5, v19, v20, rfl⟩
      obtain ⟨lot, g1, g2, g3, g4⟩ := so_at hsm hfew hi
      obtain ⟨t, ht, et⟩ := mod_nat ((r4 : Int) + 3 * (i : Int)) (base sm (few + 1)) hbp
      obtain ⟨lot2, k1, k2, k3, k4⟩ := so_at hsm hfew ht
      have e1 := nats_at g1
      have e2 := nats_at k1
      have s1 := state_code_ok (many := few) (show sm ≤ 900 by omega) g2 g3
      have s2 := coded_code (show sm ≤ 900 by omega) (show few ≤ 900 by omega) g2 g3
      have j1 := joined_ok (show sm ≤ 900 by omega) (show few ≤ 900 by omega) g2 k2 g3 k3
      have j2 := joined_ok (show sm ≤ 900 by omega) (show few ≤ 900 by omega) k2 g2 k3 g3
      rw [Nat.or_comm lot2 lot] at j2
      have o1 := or_i lot lot2
      have t1 := law_top_ok (many := few) (show sm ≤ 40 by omega) (Nat.or_lt_two_pow g2 k2)
      have htm : topN sm (lot ||| lot2) few ∈ so sm (few + 1) := (so_mem _).mpr ⟨topN_lt _ _ _, Nat.lt_succ_of_le (topN_cnt _ _ _)⟩
      obtain ⟨j, x1, x2⟩ := idxD_nats htm
      have hjb : j < base sm (few + 1) := by
        rw [← so_length hsm hfew]
        rcases Nat.lt_or_ge j (so sm (few + 1)).length with z | z
        · exact z
        · rw [List.getElem?_eq_none z] at x2; cases x2
      obtain ⟨lot3, y1, _, _, y4⟩ := so_at hsm hfew hjb
      rw [x2] at y1; cases y1
      rw [g4] at s1 s2
      rw [g4, k4, y4] at j1
      rw [g4, k4, y4] at j2
      have m1 : mulD (.int 3) (.int (i : Int)) = some (.int (3 * (i : Int))) := mul_l (by decide)
      have m2 : modD (.int ((r4 : Int) + 3 * (i : Int))) (.int ((base sm (few + 1) : Nat) : Int)) = some (.int (t : Int)) := by rw [mod_i (by omega), et]
      refine ⟨[a0, .fz (.lst (nats row)), .fz (.int (sm : Int)), .fz (.int (few : Int)), .fz (.lst (nats (so sm (few + 1)))), .fz (.int (i : Int)), a6, a7, a8, a9, a10, a11, a12, a13, a14, a15, a16, a17, a18, v19, v20, a21, a22, a23, a24, a25], [a0, .fz (.lst (nats row)), .fz (.int (sm : Int)), .fz (.int (few : Int)), .fz (.lst (nats (so sm (few + 1)))), .fz (.int (i : Int)), a6, a7, a8, a9, a10, a11, a12, a13, a14, a15, a16, a17, a18, .fz (.int (t : Int)), .fz (.int (j : Int)), a21, a22, a23, a24, a25], rfl, .inl ?_, _, _, _, rfl⟩
      generalize topN sm (lot ||| lot2) few = tp at *
      generalize lot ||| lot2 = un at *
      generalize base sm (few + 1) = bs at *
      simp [L1, e1, e2, s1, s2, ok_2, al_2, hg4, m1, hlen, m2, -PL.or_i, o1, t1, x1, j1, j2])
  exact ⟨v5, v19, v20, hf⟩
theorem loop2 {a0 a1 a2 a3 a4 a5 a9 a10 a11 a13 a14 a15 a16 a17 a18 a19 a20 a21 a22 a23 a24 a25  : SV} {w many : Nat} (hw : w ≤ 40) (hm : many ≤ w) (sts : List Nat) (hs : ∀ l ∈ sts, l < 2 ^ w ∧ cnt l w ≤ many) (hsl : sts.length < 1000) :
    ∃ v13 v21 v22, forF (gN 13) L2 (nats sts) [a0, a1, a2, a3, a4, a5, .fz (.int (w : Int)), .fz (.int (many : Int)), .fz TR, a9, a10, a11, .ow (nats []), a13, a14, a15, a16, a17, a18, a19, a20, a21, a22, a23, a24, a25] = .nx [a0, a1, a2, a3, a4, a5, .fz (.int (w : Int)), .fz (.int (many : Int)), .fz TR, a9, a10, a11, .ow (nats (sts.map (code w))), v13, a14, a15, a16, a17, a18, a19, a20, v21, v22, a23, a24, a25] := by
  obtain ⟨ρ', hf, v13, v21, v22, rfl⟩ := for_inv (g := gN 13) (b := L2) (nats sts)
    (fun i ρ => ∃ v13 v21 v22, ρ = [a0, a1, a2, a3, a4, a5, .fz (.int (w : Int)), .fz (.int (many : Int)), .fz TR, a9, a10, a11, .ow (nats ((sts.take i).map (code w))), v13, a14, a15, a16, a17, a18, a19, a20, v21, v22, a23, a24, a25]) (ρ := [a0, a1, a2, a3, a4, a5, .fz (.int (w : Int)), .fz (.int (many : Int)), .fz TR, a9, a10, a11, .ow (nats []), a13, a14, a15, a16, a17, a18, a19, a20, a21, a22, a23, a24, a25]) ⟨_, _, _, rfl⟩ (fun i d ρ hd => by
      rintro ⟨v13, v21, v22, rfl⟩
      obtain ⟨lot, hk, rfl⟩ := nats_get hd
      obtain ⟨g1, g2⟩ := hs lot (List.mem_of_getElem? hk)
      have s1 := state_code_ok (many := many) (show w ≤ 900 by omega) g1 g2
      have s2 := coded_code (show w ≤ 900 by omega) (show many ≤ 900 by omega) g1 g2
      have s3 := law_code_ok hw g1
      have ht : sts.take (i + 1) = sts.take i ++ [lot] := by rw [List.take_add_one, hk]; rfl
      have hlen : (nats ((sts.take i).map (code w))).length < 16777216 := by
        rw [nats_len, List.length_map, List.length_take]; omega
      have hw1 : ∀ i : Int, F__law_whole [.int i] = .ok (.bl true) := fun i => whole_i i
      rw [ht, List.map_append, nats_app, List.map_cons, List.map_nil, nats_one]
      have goal : ∃ v22', L2 [a0, a1, a2, a3, a4, a5, .fz (.int (w : Int)), .fz (.int (many : Int)), .fz TR, a9, a10, a11, .ow (nats ((sts.take i).map (code w))), .fz (.int (lot : Int)), a14, a15, a16, a17, a18, a19, a20, v21, v22, a23, a24, a25] = .nx [a0, a1, a2, a3, a4, a5, .fz (.int (w : Int)), .fz (.int (many : Int)), .fz TR, a9, a10, a11, .ow (nats ((sts.take i).map (code w)) ++ [.int (code w lot : Nat)]), .fz (.int (lot : Int)), a14, a15, a16, a17, a18, a19, a20, .fz (.int (code w lot : Nat)), v22', a23, a24, a25] := by
        rcases next_ok hw g1 with hn | ⟨m, n1, n2, hn⟩
        · refine ⟨.fz .non, ?_⟩
          generalize nats ((sts.take i).map (code w)) = CS at *
          generalize code w lot = cl at *
          simp [L2, s1, hw1, s3, s2, al_i, hn, hlen]
        · refine ⟨.fz (.int (m : Int)), ?_⟩
          have c1 := law_count_n hw n1
          by_cases hcm : cnt m w ≤ many
          · have s4 := state_code_ok (many := many) (show w ≤ 900 by omega) n1 hcm
            rw [n2] at s4
            have hcm' : ((cnt m w : Nat) : Int) ≤ (many : Int) := by omega
            have al : F__law_alike [.int ((code w lot + 1 : Nat) : Int), .int (((code w lot : Nat) : Int) + 1)] = .ok (.bl true) := al_i _
            generalize nats ((sts.take i).map (code w)) = CS at *
            generalize code w lot + 1 = cl1 at *
            generalize code w lot = cl at *
            generalize cnt m w = q at *
            simp [L2, s1, hw1, s3, s2, al_i, hn, l_count, c1, hcm', s4, al, hlen]
          · have hcm' : ¬ ((cnt m w : Nat) : Int) ≤ (many : Int) := by omega
            generalize nats ((sts.take i).map (code w)) = CS at *
            generalize code w lot = cl at *
            generalize cnt m w = q at *
            simp [L2, s1, hw1, s3, s2, al_i, hn, l_count, c1, hcm', hlen]
      obtain ⟨v22', goal⟩ := goal
      exact ⟨_, _, rfl, .inl goal, _, _, _, rfl⟩)
  rw [nats_len, List.take_length] at hf
  exact ⟨v13, v21, v22, hf⟩
theorem loop3 {a0 a1 a2 a3 a4 a5 a9 a10 a13 a14 a15 a16 a17 a18 a19 a20 a21 a22 a23 a24 a25  : SV} {w many : Nat} (hw : w ≤ 40) (hm : many ≤ w) (sts : List Nat) (hs : ∀ l ∈ sts, l < 2 ^ w ∧ cnt l w ≤ many) (hsl : sts.length = 6) :
    ∃ v16 v20 v23, forF (gN 16) L3 (rgD 0 4) [a0, a1, a2, a3, a4, a5, .fz (.int (w : Int)), .fz (.int (many : Int)), .fz TR, a9, a10, .fz (.lst (nats sts)), .ow (nats (sts.map (code w))), a13, a14, a15, a16, a17, a18, a19, a20, a21, a22, a23, a24, a25] = .nx [a0, a1, a2, a3, a4, a5, .fz (.int (w : Int)), .fz (.int (many : Int)), .fz TR, a9, a10, .fz (.lst (nats sts)), .ow (nats (sts.map (code w))), a13, a14, a15, v16, a17, a18, a19, v20, a21, a22, v23, a24, a25] := by
  obtain ⟨ρ', hf, v16, v20, v23, rfl⟩ := for_r0 (g := gN 16) (b := L3) (n := 4)
    (fun i ρ => ∃ v16 v20 v23, ρ = [a0, a1, a2, a3, a4, a5, .fz (.int (w : Int)), .fz (.int (many : Int)), .fz TR, a9, a10, .fz (.lst (nats sts)), .ow (nats (sts.map (code w))), a13, a14, a15, v16, a17, a18, a19, v20, a21, a22, v23, a24, a25]) (ρ := [a0, a1, a2, a3, a4, a5, .fz (.int (w : Int)), .fz (.int (many : Int)), .fz TR, a9, a10, .fz (.lst (nats sts)), .ow (nats (sts.map (code w))), a13, a14, a15, a16, a17, a18, a19, a20, a21, a22, a23, a24, a25]) ⟨_, _, _, rfl⟩ (fun i ρ hi => by
      rintro ⟨v16, v20, v23, rfl⟩
      obtain ⟨t, ht, et⟩ := mod_nat ((i : Int) + 1) 4 (by decide)
      have get : ∀ k : Nat, k < 6 → ∃ l : Nat, sts[k]? = some l ∧ l < 2 ^ w ∧ cnt l w ≤ many := fun k hk => by
        refine ⟨sts[k], List.getElem?_eq_getElem (by omega), hs _ (List.getElem_mem _)⟩
      obtain ⟨a, ga, la1, la2⟩ := get i (by omega)
      obtain ⟨b, gb, lb1, lb2⟩ := get t (by omega)
      have e1 := nats_at ga
      have e2 := nats_at gb
      have e3 : L2.atI (nats (sts.map (code w))) (i : Int) = some (.int (code w a : Nat)) := nats_at (by rw [List.getElem?_map, ga]; rfl)
      have e4 : L2.atI (nats (sts.map (code w))) (t : Int) = some (.int (code w b : Nat)) := nats_at (by rw [List.getElem?_map, gb]; rfl)
      have o1 := or_i a b
      have t1 := law_top_ok (many := many) hw (Nat.or_lt_two_pow la1 lb1)
      have j1 := joined_ok (show w ≤ 900 by omega) (show many ≤ 900 by omega) la1 lb1 la2 lb2
      have c1 := law_code_ok hw (topN_lt w (a ||| b) many)
      have m2 : modD (.int ((i : Int) + 1)) (.int 4) = some (.int (t : Int)) := by rw [mod_i (by decide)]; rw [← et]; rfl
      have hw1 : ∀ i : Int, F__law_whole [.int i] = .ok (.bl true) := fun i => whole_i i
      refine ⟨[a0, a1, a2, a3, a4, a5, .fz (.int (w : Int)), .fz (.int (many : Int)), .fz TR, a9, a10, .fz (.lst (nats sts)), .ow (nats (sts.map (code w))), a13, a14, a15, .fz (.int (i : Int)), a17, a18, a19, v20, a21, a22, v23, a24, a25], [a0, a1, a2, a3, a4, a5, .fz (.int (w : Int)), .fz (.int (many : Int)), .fz TR, a9, a10, .fz (.lst (nats sts)), .ow (nats (sts.map (code w))), a13, a14, a15, .fz (.int (i : Int)), a17, a18, a19, .fz (.int (topN w (a ||| b) many : Nat)), a21, a22, .fz (.int (code w (topN w (a ||| b) many) : Nat)), a24, a25], rfl, .inl ?_, _, _, _, rfl⟩
      generalize nats (sts.map (code w)) = CS at *
      generalize code w (topN w (a ||| b) many) = ct at *
      generalize topN w (a ||| b) many = tp at *
      generalize a ||| b = un at *
      generalize code w a = ca at *
      generalize code w b = cb at *
      simp [L3, e1, e2, e3, e4, m2, -PL.or_i, o1, t1, j1, c1, hw1])
  exact ⟨v16, v20, v23, hf⟩
theorem loop4 {a0 a1 a2 a3 a4 a5 a6 a7 a8 a9 a10 a11 a12 a13 a14 a15 a16 a17 a18 a19 a20 a21 a22 a23 a24 a25  : SV} (l : List Nat) (hl : ∀ n ∈ l, n ≤ 2 ^ 80) : ∃ v17, forF (gN 17) L4 (nats l) [a0, a1, a2, a3, a4, a5, a6, a7, a8, a9, a10, a11, a12, a13, a14, a15, a16, a17, a18, a19, a20, a21, a22, a23, a24, a25] = .nx [a0, a1, a2, a3, a4, a5, a6, a7, a8, a9, a10, a11, a12, a13, a14, a15, a16, v17, a18, a19, a20, a21, a22, a23, a24, a25] := by
  obtain ⟨ρ', hf, v17, rfl⟩ := for_inv (g := gN 17) (b := L4) (nats l)
    (fun i ρ => ∃ v17, ρ = [a0, a1, a2, a3, a4, a5, a6, a7, a8, a9, a10, a11, a12, a13, a14, a15, a16, v17, a18, a19, a20, a21, a22, a23, a24, a25]) (ρ := [a0, a1, a2, a3, a4, a5, a6, a7, a8, a9, a10, a11, a12, a13, a14, a15, a16, a17, a18, a19, a20, a21, a22, a23, a24, a25]) ⟨_, rfl⟩ (fun i d ρ hd => by
      rintro ⟨v17, rfl⟩
      obtain ⟨n, hk, rfl⟩ := nats_get hd
      have hb := bits_right (hl n (List.mem_of_getElem? hk))
      exact ⟨[a0, a1, a2, a3, a4, a5, a6, a7, a8, a9, a10, a11, a12, a13, a14, a15, a16, .fz (.int (n : Int)), a18, a19, a20, a21, a22, a23, a24, a25], [a0, a1, a2, a3, a4, a5, a6, a7, a8, a9, a10, a11, a12, a13, a14, a15, a16, .fz (.int (n : Int)), a18, a19, a20, a21, a22, a23, a24, a25], rfl, .inl (by simp [L4, hb]), _, rfl⟩)
  exact ⟨v17, hf⟩
theorem rg15 : rgO 1 5 = .ok (rgD 1 4) := rgO_of (i := 1) (j := 5) (by decide) (by decide)
theorem loop5 {a0 a1 a2 a3 a4 a5 a8 a9 a10 a11 a12 a13 a14 a15 a16 a17 a18 a19 a20 a21 a22 a23 a24 a25  : SV} {w many : Nat} (hw : w ≤ 40) (hm : many ≤ w) (l : List D) (hl : ∀ x ∈ l, (∃ b, x = .bl b) ∨ ∃ i : Int, x = .int i ∧ (i < 0 ∨ (base w (many + 1) : Nat) ≤ i)) : ∃ v18 v25, forF (gN 18) L5 l [a0, a1, a2, a3, a4, a5, .fz (.int (w : Int)), .fz (.int (many : Int)), a8, a9, a10, a11, a12, a13, a14, a15, a16, a17, a18, a19, a20, a21, a22, a23, a24, a25] = .nx [a0, a1, a2, a3, a4, a5, .fz (.int (w : Int)), .fz (.int (many : Int)), a8, a9, a10, a11, a12, a13, a14, a15, a16, a17, v18, a19, a20, a21, a22, a23, a24, v25] := by
  obtain ⟨ρ', hf, v18, v25, rfl⟩ := for_inv (g := gN 18) (b := L5) l
    (fun i ρ => ∃ v18 v25, ρ = [a0, a1, a2, a3, a4, a5, .fz (.int (w : Int)), .fz (.int (many : Int)), a8, a9, a10, a11, a12, a13, a14, a15, a16, a17, v18, a19, a20, a21, a22, a23, a24, v25]) (ρ := [a0, a1, a2, a3, a4, a5, .fz (.int (w : Int)), .fz (.int (many : Int)), a8, a9, a10, a11, a12, a13, a14, a15, a16, a17, a18, a19, a20, a21, a22, a23, a24, a25]) ⟨_, _, rfl⟩ (fun i x ρ hd => by
      rintro ⟨v18, v25, rfl⟩
      have hx := hl x (List.mem_of_getElem? hd)
      have ha : PL.M.F__law_alike [x, x] = .ok (.bl true) := by
        rcases hx with ⟨b, rfl⟩ | ⟨i, rfl, _⟩
        · exact al_b b
        · exact al_i i
      have c1 := coded_bad (show w ≤ 1000 by omega) (show many ≤ 900 by omega) hx
      have j1 := fun y => joined_bad1 (y := y) (show w ≤ 900 by omega) (show many ≤ 900 by omega) hx
      have j2 := joined_bad2 (a := 0) (show w ≤ 900 by omega) (show many ≤ 900 by omega) (base_pos w many) hx
      have R : ∀ k : Nat, k < 4 → F__law_refused [.int (1 + (k : Int)), .int (w : Int), .int (many : Int), x] = .ok (.bl true) := fun k hk => by
        refine refused_num (by omega) ?_ ha
        match k, hk with
        | 0, _ => exact .inl ⟨rfl, c1⟩
        | 1, _ => exact .inr (.inl ⟨rfl, j1 _⟩)
        | 2, _ => exact .inr (.inr (.inl ⟨rfl, j2⟩))
        | 3, _ => exact .inr (.inr (.inr ⟨rfl, j1 _⟩))
      have hc := comp_map (g := gN 25) (t := fun _ => .ok true) (e := eFn 4 F__law_refused (eCons (eV 25) (eCons (eV 6) (eCons (eV 7) (eCons (eV 18) eNil))))) (ρ := [a0, a1, a2, a3, a4, a5, .fz (.int (w : Int)), .fz (.int (many : Int)), a8, a9, a10, a11, a12, a13, a14, a15, a16, a17, .fz x, a19, a20, a21, a22, a23, a24, .un])
        (fun (j : Nat) => D.int (1 + (j : Int))) (fun _ => true) (fun _ => .bl true) (List.range 4) fun k hk => ⟨[a0, a1, a2, a3, a4, a5, .fz (.int (w : Int)), .fz (.int (many : Int)), a8, a9, a10, a11, a12, a13, a14, a15, a16, a17, .fz x, a19, a20, a21, a22, a23, a24, .fz (.int (1 + (k : Int)))], rfl, rfl, fun _ => by
          have hk := List.mem_range.mp hk
          simp [R k hk]⟩
      change compF _ _ _ _ (rgD 1 4) = some [.bl true, .bl true, .bl true, .bl true] at hc
      have hall : allD (.lst [.bl true, .bl true, .bl true, .bl true]) = some (.bl true) := rfl
      have ho : okL [D.bl true, .bl true, .bl true, .bl true] = true := okL_of (by decide)
      exact ⟨[a0, a1, a2, a3, a4, a5, .fz (.int (w : Int)), .fz (.int (many : Int)), a8, a9, a10, a11, a12, a13, a14, a15, a16, a17, .fz x, a19, a20, a21, a22, a23, a24, v25], [a0, a1, a2, a3, a4, a5, .fz (.int (w : Int)), .fz (.int (many : Int)), a8, a9, a10, a11, a12, a13, a14, a15, a16, a17, .fz x, a19, a20, a21, a22, a23, a24, v25], rfl, .inl (by simp [L5, rg15, hc, ho, hall]), _, _, rfl⟩)
  exact ⟨v18, v25, hf⟩
end K80

/-! k80: the law holds, the end -/
namespace K80
open PySem PL PL.M
/-- the greatest lot of all -/
theorem top_lot {w many : Nat} (hm : many ≤ w) : (2 ^ many - 1) * 2 ^ (w - many) < 2 ^ w ∧ cnt ((2 ^ many - 1) * 2 ^ (w - many)) w = many ∧ code w ((2 ^ many - 1) * 2 ^ (w - many)) + 1 = base w (many + 1) := by
  have hb : ∀ k, ((2 ^ many - 1) * 2 ^ (w - many)).testBit k = (decide (w - many ≤ k) && decide (k - (w - many) < many)) := fun k => by
    rw [Nat.testBit_mul_two_pow, Nat.testBit_two_pow_sub_one]
  have hlt : (2 ^ many - 1) * 2 ^ (w - many) < 2 ^ w := by
    have h1 : 2 ^ w = 2 ^ many * 2 ^ (w - many) := by rw [← Nat.pow_add]; congr 1; omega
    rw [h1]
    exact Nat.mul_lt_mul_of_pos_right (by have := Nat.two_pow_pos many; omega) (Nat.two_pow_pos _)
  have hc : ∀ b, b ≤ w → cnt ((2 ^ many - 1) * 2 ^ (w - many)) b = b - (w - many) := by
    intro b
    induction b with
    | zero => intro _; rw [Nat.zero_sub]; rfl
    | succ b ih =>
      intro h
      have e := ih (by omega)
      by_cases z : w - many ≤ b
      · rw [cnt_1 (by rw [hb]; simp; omega), e]; omega
      · rw [cnt_0 (by rw [hb]; simp; omega), e]; omega
  have hc' := hc w (Nat.le_refl _)
  refine ⟨hlt, by omega, ?_⟩
  have := last_code (w := w) (n := (2 ^ many - 1) * 2 ^ (w - many)) fun k hk hkb => by
    rw [hb] at hkb ⊢
    simp at hkb ⊢
    omega
  rw [this, hc']
  congr 1
  omega
def wds : List Nat := [40, 7, 12, 33, 20, 9, 40, 16, 25, 8, 30, 10]
theorem shl_n (a k : Nat) (h : a < 2 ^ 64) (hk : k ≤ 1000) : shlD (.int (a : Int)) (.int (k : Int)) = some (.int ((a * 2 ^ k : Nat) : Int)) := by
  rw [shl_i ⟨by omega, by omega, by omega⟩]; simp
theorem cell_all (ns : List Int) : ∃ d : Nat → Int, ∀ k : Nat, k < 100 → F__law_cell [.scl (ns.map D.int), .int (k : Int)] = .ok (.int (d k)) := by
  have h : ∀ k : Nat, ∃ c : Int, k < 100 → F__law_cell [.scl (ns.map D.int), .int (k : Int)] = .ok (.int c) := fun k => by
    by_cases hk : k < 100
    · obtain ⟨c, hc⟩ := cell_ex ns k (by omega); exact ⟨c, fun _ => hc⟩
    · exact ⟨0, fun z => absurd z hk⟩
  obtain ⟨d, hd⟩ := Classical.skolem.mp h
  exact ⟨d, hd⟩
theorem drawn_all (c : Nat → Int) {w many : Nat} (hw0 : 0 < w) (hw : w ≤ 40) (hm : many ≤ 40) : ∃ d : Nat → Nat, ∀ k : Nat, d k < 2 ^ w ∧ cnt (d k) w ≤ many ∧ F__law_drawn_state [.int (c k), .int (w : Int), .int (many : Int)] = .ok (.int (d k : Nat)) :=
  Classical.skolem.mp fun k => drawn_ok (c k) hw0 hw hm
theorem t3_ok {a2 a3 a4 a5 a9 a13 a14 a15 a16 a17 a18 a19 a20 a21 a22 a23 a24 a25 : SV} {ns : List Int} {row sts : List Nat} {w many r4 r5 : Nat} (hw1 : 1 ≤ w) (hw : w ≤ 40) (hm1 : 1 ≤ many) (hm : many ≤ w) (h4 : row[4]? = some r4) (hr4 : r4 < 997) (h5 : row[5]? = some r5) (hr5 : r5 < 64)
    (hs : ∀ l ∈ sts, l < 2 ^ w ∧ cnt l w ≤ many) (hsl : sts.length = 6) (hs4 : sts[4]? = some 0) (hs5 : sts[5]? = some ((2 ^ many - 1) * 2 ^ (w - many))) :
    T3 [.fz (.scl (ns.map D.int)), .fz (.lst (nats row)), a2, a3, a4, a5, .fz (.int (w : Int)), .fz (.int (many : Int)), .fz TR, a9, .fz (.int (base w (many + 1) : Nat)), .fz (.lst (nats sts)), .ow (nats (sts.map (code w))), a13, a14, a15, a16, a17, a18, a19, a20, a21, a22, a23, a24, a25] = .rt (.bl true) := by
  have x4 : L2.atI (nats row) 4 = some (.int (r4 : Int)) := nats_at h4
  have x5 : L2.atI (nats row) 5 = some (.int (r5 : Int)) := nats_at h5
  have hbp := base_pos w many
  have hle : base w (many + 1) ≤ 2 ^ 60 := by
    have b1 := base_le w (many + 1)
    have b2 : 2 ^ w ≤ 2 ^ 40 := Nat.pow_le_pow_right (by omega) (by omega)
    have b3 := Nat.mul_le_mul (show many + 1 ≤ 41 by omega) b2
    omega
  obtain ⟨tl1, tl2, tl3⟩ := top_lot hm
  have y4 : L2.atI (nats (sts.map (code w))) 4 = some (.int 0) := by
    have : (sts.map (code w))[4]? = some 0 := by
      rw [List.getElem?_map, hs4]
      obtain ⟨z1, z2⟩ := no_bits (n := 0) w fun k _ => Nat.zero_testBit k
      show some (code w 0) = some 0
      unfold code; rw [z1, z2]; rfl
    exact nats_at this
  have y5 : L2.atI (nats (sts.map (code w))) 5 = some (.int (((base w (many + 1) : Nat) : Int) - 1)) := by
    have := nats_at (l := sts.map (code w)) (i := 5) (k := code w ((2 ^ many - 1) * 2 ^ (w - many))) (by rw [List.getElem?_map, hs5]; rfl)
    rw [show ((base w (many + 1) : Nat) : Int) - 1 = (code w ((2 ^ many - 1) * 2 ^ (w - many)) : Nat) by omega]
    exact this
  obtain ⟨c6, hc6⟩ := cell_ex ns 6 (by decide)
  have hc6' : F__law_cell [.scl (ns.map D.int), .int 6] = .ok (.int c6) := hc6
  obtain ⟨dr, ldr, edr⟩ := mod_nat c6 (base w (many + 1)) hbp
  have mdr : modD (.int c6) (.int ((base w (many + 1) : Nat) : Int)) = some (.int (dr : Int)) := by rw [mod_i (by omega), edr]
  obtain ⟨gl, gl1, gl2, gl3, gl4⟩ := coded_ok (show w ≤ 900 by omega) (show many ≤ 900 by omega) ldr
  have glc := law_code_ok hw gl1
  rw [gl3] at glc
  have gln := law_count_n hw gl1
  have hw1' : ∀ i : Int, F__law_whole [.int i] = .ok (.bl true) := fun i => whole_i i
  have pw := pow_n w (by omega)
  have gl0 : ¬ (gl : Int) < 0 := by omega
  have gl1' : ¬ ((2 ^ w : Nat) : Int) ≤ (gl : Int) := by omega
  have gl2' : ¬ (many : Int) < ((cnt gl w : Nat) : Int) := by omega
  have rg4 : rgO 0 4 = .ok (rgD 0 4) := rgO_n (n := 4) (by decide)
  have p5 := pow_n r5 (by omega)
  have hp5 : 2 ^ r5 ≤ 2 ^ 64 := Nat.pow_le_pow_right (by omega) (by omega)
  have ok8 : ∀ a b c d e f g h : D, okL [a, b, c, d, e, f, g, h] = true := fun _ _ _ _ _ _ _ _ => okL_of (by simp)
  have ok4 : ∀ a b c d : D, okL [a, b, c, d] = true := fun _ _ _ _ => okL_of (by simp)
  have refl : F__law_refused [.int 0, .int (w : Int), .int (many : Int), .int ((2 ^ w : Nat) : Int)] = .ok (.bl true) := refused_lot (state_bad (by omega) (.inr (.inl ⟨_, rfl, .inr (by simp)⟩))) (al_i _)
  have refm : F__law_refused [.int 0, .int (w : Int), .int (many : Int), .int (-1)] = .ok (.bl true) := refused_lot (state_bad (by omega) (.inr (.inl ⟨_, rfl, .inl (by decide)⟩))) (al_i _)
  have refb : F__law_refused [.int 0, .int (w : Int), .int (many : Int), .bl true] = .ok (.bl true) := refused_lot (state_bad (by omega) (.inl ⟨_, rfl⟩)) (al_b _)
  have pm : shlD (.int 1) (.int ((many : Int) + 1)) = some (.int ((2 ^ (many + 1) : Nat) : Int)) := pow_n (many + 1) (by omega)
  have em : ((2 ^ (many + 1) : Nat) : Int) - 1 = ((2 ^ (many + 1) - 1 : Nat) : Int) := by have := Nat.two_pow_pos (many + 1); omega
  have refh : many < w → F__law_refused [.int 0, .int (w : Int), .int (many : Int), .int ((2 ^ (many + 1) - 1 : Nat) : Int)] = .ok (.bl true) := fun h => by
    have hlt : 2 ^ (many + 1) - 1 < 2 ^ w := by
      have a1 : 2 ^ (many + 1) ≤ 2 ^ w := Nat.pow_le_pow_right (by omega) (by omega)
      have a2 := Nat.two_pow_pos (many + 1)
      omega
    exact refused_lot (state_bad (by omega) (.inr (.inr ⟨_, rfl, hlt, by rw [(low_code (w := w) (s := many + 1) (by omega)).1]; omega⟩))) (al_i _)
  generalize hbb : base w (many + 1) = bb at *
  obtain ⟨v16, v20, v23, f3⟩ := loop3 (a0 := .fz (.scl (ns.map D.int))) (a1 := .fz (.lst (nats row))) (a2 := a2) (a3 := a3) (a4 := a4) (a5 := a5) (a9 := a9) (a10 := .fz (.int (bb : Int))) (a13 := a13) (a14 := .fz (.int (dr : Int))) (a15 := .fz (.int (gl : Int))) (a16 := a16) (a17 := a17) (a18 := a18) (a19 := a19) (a20 := a20) (a21 := a21) (a22 := a22) (a23 := a23) (a24 := a24) (a25 := a25) hw hm sts hs hsl
  obtain ⟨v17, f4⟩ := loop4 (a0 := .fz (.scl (ns.map D.int))) (a1 := .fz (.lst (nats row))) (a2 := a2) (a3 := a3) (a4 := a4) (a5 := a5) (a6 := .fz (.int (w : Int))) (a7 := .fz (.int (many : Int))) (a8 := .fz TR) (a9 := a9) (a10 := .fz (.int (bb : Int))) (a11 := .fz (.lst (nats sts))) (a12 := .ow (nats (sts.map (code w)))) (a13 := a13) (a14 := .fz (.int (dr : Int))) (a15 := .fz (.int (gl : Int))) (a16 := v16) (a17 := a17) (a18 := a18) (a19 := a19) (a20 := v20) (a21 := a21) (a22 := a22) (a23 := v23) (a24 := a24) (a25 := a25) [1, 2, 3, r4 + 1, bb, bb + r5, 2 ^ r5, 2 ^ r5 + 1] (by
    intro n hn
    have q1 : (2 : Nat) ^ 60 ≤ 2 ^ 80 := by decide
    have q2 : (2 : Nat) ^ 64 + 1 ≤ 2 ^ 80 := by decide
    have q3 : (2 : Nat) ^ 60 + 64 ≤ 2 ^ 80 := by decide
    have q4 : 1000 ≤ (2 : Nat) ^ 80 := by decide
    simp only [List.mem_cons, List.not_mem_nil, or_false] at hn
    rcases hn with rfl | rfl | rfl | rfl | rfl | rfl | rfl | rfl
    all_goals omega)
  obtain ⟨v18, v25, f5⟩ := loop5 (a0 := .fz (.scl (ns.map D.int))) (a1 := .fz (.lst (nats row))) (a2 := a2) (a3 := a3) (a4 := a4) (a5 := a5) (a8 := .fz TR) (a9 := a9) (a10 := .fz (.int (bb : Int))) (a11 := .fz (.lst (nats sts))) (a12 := .ow (nats (sts.map (code w)))) (a13 := a13) (a14 := .fz (.int (dr : Int))) (a15 := .fz (.int (gl : Int))) (a16 := v16) (a17 := v17) (a18 := a18) (a19 := a19) (a20 := v20) (a21 := a21) (a22 := a22) (a23 := v23) (a24 := a24) (a25 := a25) hw hm [.int (-1), .int (bb : Int), .int ((bb : Int) + (r4 : Int)), .bl true] (by
    intro x hx
    simp only [List.mem_cons, List.not_mem_nil, or_false] at hx
    rw [hbb]
    rcases hx with rfl | rfl | rfl | rfl
    · exact .inr ⟨_, rfl, .inl (by decide)⟩
    · exact .inr ⟨_, rfl, .inr (Int.le_refl _)⟩
    · exact .inr ⟨_, rfl, .inr (by omega)⟩
    · exact .inl ⟨_, rfl⟩)
  have f4' : nats [1, 2, 3, r4 + 1, bb, bb + r5, 2 ^ r5, 2 ^ r5 + 1] = [.int 1, .int 2, .int 3, .int ((r4 : Int) + 1), .int (bb : Int), .int ((bb : Int) + (r5 : Int)), .int ((2 ^ r5 : Nat) : Int), .int (((2 ^ r5 : Nat) : Int) + 1)] := rfl
  rw [f4'] at f4
  generalize 2 ^ r5 = q5 at *
  generalize 2 ^ (many + 1) - 1 = qm1 at *
  generalize 2 ^ (many + 1) = qm at *
  generalize 2 ^ w = qw at *
  generalize cnt gl w = qc at *
  by_cases hmw : many < w
  · have hmw' : (many : Int) < (w : Int) := by omega
    simp [T3, y4, y5, hc6', mdr, gl4, hw1', gl0, pw, gl1', l_count, gln, gl2', glc, rg4, f3, x4, x5, p5, ok8, f4, ok4, f5, hmw', pm, em, refh hmw, refl, refm, refb]
  · have hmw' : ¬ (many : Int) < (w : Int) := by omega
    simp [T3, y4, y5, hc6', mdr, gl4, hw1', gl0, pw, gl1', l_count, gln, gl2', glc, rg4, f3, x4, x5, p5, ok8, f4, ok4, f5, hmw', refl, refm, refb]
theorem t2_ok {a2 a3 a4 a5 a19 a20 : SV} {ns : List Int} {row : List Nat} {r2 r3 r4 r5 : Nat} (h2 : row[2]? = some r2) (hr2 : r2 < 12) (h3 : row[3]? = some r3) (h4 : row[4]? = some r4) (hr4 : r4 < 997) (h5 : row[5]? = some r5) (hr5 : r5 < 64) : T2 [.fz (.scl (ns.map D.int)), .fz (.lst (nats row)), a2, a3, a4, a5, .un, .un, .un, .un, .un, .un, .un, .un, .un, .un, .un, .un, .un, a19, a20, .un, .un, .un, .un, .un] = .rt (.bl true) := by
  have x2 : L2.atI (nats row) 2 = some (.int (r2 : Int)) := nats_at h2
  have x3 : L2.atI (nats row) 3 = some (.int (r3 : Int)) := nats_at h3
  have hwd : ∃ wd, wds[r2]? = some wd := ⟨wds[r2]'(by show r2 < 12; omega), List.getElem?_eq_getElem _⟩
  obtain ⟨wd, hwd⟩ := hwd
  have hwd2 : ∀ x ∈ wds, 7 ≤ x ∧ x ≤ 40 := by decide
  obtain ⟨wd7, wd40⟩ := hwd2 wd (List.mem_of_getElem? hwd)
  have xw : L2.atI [D.int 40, .int 7, .int 12, .int 33, .int 20, .int 9, .int 40, .int 16, .int 25, .int 8, .int 30, .int 10] (r2 : Int) = some (.int (wd : Int)) := nats_at hwd
  have ok12 : okL [D.int 40, .int 7, .int 12, .int 33, .int 20, .int 9, .int 40, .int 16, .int 25, .int 8, .int 30, .int 10] = true := okL_of (by decide)
  obtain ⟨t3, lt3, et3⟩ := mod_nat (r3 : Int) wd (by omega)
  have m3 : modD (.int (r3 : Int)) (.int (wd : Int)) = some (.int (t3 : Int)) := by rw [mod_i (by omega), et3]
  obtain ⟨many, hmany⟩ : ∃ many, many = 1 + t3 := ⟨_, rfl⟩
  have e_many : (1 : Int) + (t3 : Int) = (many : Int) := by omega
  have hmw : many ≤ wd := by omega
  have htri : eF0 F__law_triangle = fun _ => .ok TR := by funext ρ; rw [e_f0, triangle_ok]
  have hix : ixD TR (.int (wd : Int)) = some (rowD wd) := tr_at (by omega)
  have rgm := rgO_s (n := many) (by omega)
  have hcs := comp_rg (g := gN 24) (t := fun _ => .ok true) (e := eOp ixD (xV 9) (eV 24)) (ρ := [.fz (.scl (ns.map D.int)), .fz (.lst (nats row)), a2, a3, a4, a5, .fz (.int (wd : Int)), .fz (.int (many : Int)), .fz TR, .fz (rowD wd), .un, .un, .un, .un, .un, .un, .un, .un, .un, a19, a20, .un, .un, .un, .un, .un])
    (fun _ => true) (fun k => .int (ch wd k : Nat)) (many + 1) fun k hk => ⟨[.fz (.scl (ns.map D.int)), .fz (.lst (nats row)), a2, a3, a4, a5, .fz (.int (wd : Int)), .fz (.int (many : Int)), .fz TR, .fz (rowD wd), .un, .un, .un, .un, .un, .un, .un, .un, .un, a19, a20, .un, .un, .un, .fz (.int (k : Int)), .un], rfl, rfl, fun _ => by
      have e1 := nats_at (row_at (k := wd) (i := k) (by omega))
      generalize ch wd k = x at *
      simp [rowD, e1]⟩
  have e : (((List.range (many + 1)).filter fun _ => true).map fun k => D.int (ch wd k : Nat)) = nats ((List.range (many + 1)).map fun k => ch wd k) := by
    rw [nats, List.map_map, List.filter_eq_self.mpr (fun _ _ => rfl)]; rfl
  rw [e] at hcs
  have hll : okL (nats ((List.range (many + 1)).map fun k => ch wd k)) = true := okL_of (by rw [nats_len, List.length_map, List.length_range]; omega)
  have hsum := sumD_nats ((List.range (many + 1)).map fun k => ch wd k)
  rw [base_sum] at hsum
  obtain ⟨c, hc⟩ := cell_all ns
  obtain ⟨d, hd⟩ := drawn_all (fun k => c (1 + k)) (w := wd) (many := many) (by omega) wd40 (by omega)
  have rg4 : rgO 0 4 = .ok (rgD 0 4) := rgO_n (n := 4) (by decide)
  have hcd := comp_rg (g := gN 16) (t := fun _ => .ok true) (e := eFn 3 F__law_drawn_state (eCons (eFn 2 F__law_cell (eCons (eV 0) (eCons (eOp addD (eC (.int 1)) (eV 16)) eNil))) (eCons (eV 6) (eCons (eV 7) eNil)))) (ρ := [.fz (.scl (ns.map D.int)), .fz (.lst (nats row)), a2, a3, a4, a5, .fz (.int (wd : Int)), .fz (.int (many : Int)), .fz TR, .fz (rowD wd), .fz (.int (base wd (many + 1) : Nat)), .un, .un, .un, .un, .un, .un, .un, .un, a19, a20, .un, .un, .un, .un, .un])
    (fun _ => true) (fun k => .int (d k : Nat)) 4 fun k hk => ⟨[.fz (.scl (ns.map D.int)), .fz (.lst (nats row)), a2, a3, a4, a5, .fz (.int (wd : Int)), .fz (.int (many : Int)), .fz TR, .fz (rowD wd), .fz (.int (base wd (many + 1) : Nat)), .un, .un, .un, .un, .un, .fz (.int (k : Int)), .un, .un, a19, a20, .un, .un, .un, .un, .un], rfl, rfl, fun _ => by
      have e1 : F__law_cell [.scl (ns.map D.int), .int (1 + (k : Int))] = .ok (.int (c (1 + k))) := by
        have := hc (1 + k) (by omega)
        rwa [show ((1 + k : Nat) : Int) = 1 + (k : Int) by omega] at this
      have e2 := (hd k).2.2
      generalize d k = x at *
      simp [e1, e2]⟩
  change compF _ _ _ _ (rgD 0 4) = some (nats [d 0, d 1, d 2, d 3]) at hcd
  obtain ⟨tl1, tl2, tl3⟩ := top_lot hmw
  obtain ⟨top, htop⟩ : ∃ top, top = (2 ^ many - 1) * 2 ^ (wd - many) := ⟨_, rfl⟩
  have pm := pow_n many (by omega)
  have em : ((2 ^ many : Nat) : Int) - 1 = ((2 ^ many - 1 : Nat) : Int) := by have := Nat.two_pow_pos many; omega
  have ewm : (wd : Int) - (many : Int) = ((wd - many : Nat) : Int) := by omega
  have hp64 : 2 ^ many - 1 < 2 ^ 64 := by
    have : 2 ^ many ≤ 2 ^ 40 := Nat.pow_le_pow_right (by omega) (by omega)
    omega
  have shl := shl_n (2 ^ many - 1) (wd - many) hp64 (by omega)
  rw [← htop] at shl
  have okd : okL (nats [d 0, d 1, d 2, d 3]) = true := okL_of (by rw [nats_len]; simp)
  have hadd : addD (.lst (nats [d 0, d 1, d 2, d 3])) (.lst [.int 0, .int (top : Int)]) = some (.lst (nats [d 0, d 1, d 2, d 3, 0, top])) := by
    rw [add_lst (by rw [nats_len]; simp)]; rfl
  have hs : ∀ l ∈ [d 0, d 1, d 2, d 3, 0, top], l < 2 ^ wd ∧ cnt l wd ≤ many := by
    intro l hl
    simp only [List.mem_cons, List.not_mem_nil, or_false] at hl
    rcases hl with rfl | rfl | rfl | rfl | rfl | rfl
    · exact ⟨(hd 0).1, (hd 0).2.1⟩
    · exact ⟨(hd 1).1, (hd 1).2.1⟩
    · exact ⟨(hd 2).1, (hd 2).2.1⟩
    · exact ⟨(hd 3).1, (hd 3).2.1⟩
    · exact ⟨Nat.two_pow_pos wd, by rw [(no_bits (n := 0) wd fun k _ => Nat.zero_testBit k).1]; exact Nat.zero_le _⟩
    · exact ⟨by rw [htop]; exact tl1, by rw [htop]; omega⟩
  have oke : okL [] = true := okL_of (Nat.zero_le _)
  obtain ⟨v13, v21, v22, f2⟩ := loop2 (a0 := .fz (.scl (ns.map D.int))) (a1 := .fz (.lst (nats row))) (a2 := a2) (a3 := a3) (a4 := a4) (a5 := a5) (a9 := .fz (rowD wd)) (a10 := .fz (.int (base wd (many + 1) : Nat))) (a11 := .fz (.lst (nats [d 0, d 1, d 2, d 3, 0, top]))) (a13 := .un) (a14 := .un) (a15 := .un) (a16 := .un) (a17 := .un) (a18 := .un) (a19 := a19) (a20 := a20) (a21 := .un) (a22 := .un) (a23 := .un) (a24 := .un) (a25 := .un) wd40 hmw [d 0, d 1, d 2, d 3, 0, top] hs (by simp)
  have g3 := t3_ok (ns := ns) (row := row) (sts := [d 0, d 1, d 2, d 3, 0, top]) (w := wd) (many := many) (r4 := r4) (r5 := r5) (a2 := a2) (a3 := a3) (a4 := a4) (a5 := a5) (a9 := .fz (rowD wd)) (a13 := v13) (a14 := .un) (a15 := .un) (a16 := .un) (a17 := .un) (a18 := .un) (a19 := a19) (a20 := a20) (a21 := v21) (a22 := v22) (a23 := .un) (a24 := .un) (a25 := .un) (by omega) wd40 (by omega) hmw h4 hr4 h5 hr5 hs rfl rfl (by rw [htop]; rfl)
  rw [nats_nil] at f2
  generalize nats [d 0, d 1, d 2, d 3, 0, top] = ST at *
  generalize nats [d 0, d 1, d 2, d 3] = ST4 at *
  generalize nats ((List.range (many + 1)).map fun k => ch wd k) = LL at *
  generalize base wd (many + 1) = bb at *
  generalize 2 ^ many - 1 = qm1 at *
  generalize 2 ^ many = qm at *
  simp [T2, x2, ok12, xw, x3, m3, e_many, htri, hix, rgm, hcs, hll, hsum, rg4, hcd, okd, ok_2, pm, em, ewm, shl, hadd, oke, f2]
  exact g3
theorem law_true : ∀ ns : List Int, ns.length ≤ 63 → F_law [.scl (ns.map D.int)] = .ok (.bl true) := by
  intro ns hns
  obtain ⟨c0, hc0⟩ := cell_ex ns 0 (by decide)
  obtain ⟨row, ⟨hrl, hrow⟩, hdig⟩ := digits_ex c0 [6, 6, 12, 40, 997, 64] (by decide) (by decide)
  obtain ⟨r0, h0, l0⟩ := hrow 0 6 rfl
  obtain ⟨r1, h1, l1⟩ := hrow 1 6 rfl
  obtain ⟨r2, h2, l2⟩ := hrow 2 12 rfl
  obtain ⟨r3, h3, l3⟩ := hrow 3 40 rfl
  obtain ⟨r4, h4, l4⟩ := hrow 4 997 rfl
  obtain ⟨r5, h5, l5⟩ := hrow 5 64 rfl
  have x0 : L2.atI (nats row) 0 = some (.int (r0 : Int)) := nats_at h0
  have x1 : L2.atI (nats row) 1 = some (.int (r1 : Int)) := nats_at h1
  have hc0' : F__law_cell [.scl (ns.map D.int), .int 0] = .ok (.int c0) := hc0
  have hdig' : F__law_digits [.int c0, .lst [.int 6, .int 6, .int 12, .int 40, .int 997, .int 64]] = .ok (.lst (nats row)) := hdig
  have ok6 : okL [D.int 6, .int 6, .int 12, .int 40, .int 997, .int 64] = true := okL_of (by decide)
  obtain ⟨sm, hsm⟩ : ∃ sm, sm = 1 + r0 := ⟨_, rfl⟩
  have e_sm : (1 : Int) + (r0 : Int) = (sm : Int) := by omega
  obtain ⟨t1, lt1, et1⟩ := mod_nat (r1 : Int) sm (by omega)
  have m1 : modD (.int (r1 : Int)) (.int (sm : Int)) = some (.int (t1 : Int)) := by rw [mod_i (by omega), et1]
  obtain ⟨few, hfew⟩ : ∃ few, few = 1 + t1 := ⟨_, rfl⟩
  have e_few : (1 : Int) + (t1 : Int) = (few : Int) := by omega
  have hso := size_order_ok (w := sm) (by omega)
  have hcl := comp_map (g := gN 13) (t := tT (eOp leD (eFn 1 F__law_count (eCons (eV 13) eNil)) (eV 3))) (e := eV 13) (ρ := [.fz (.scl (ns.map D.int)), .fz (.lst (nats row)), .fz (.int (sm : Int)), .fz (.int (few : Int)), .un, .un, .un, .un, .un, .un, .un, .un, .un, .un, .un, .un, .un, .un, .un, .un, .un, .un, .un, .un, .un, .un])
    (fun (k : Nat) => D.int (k : Int)) (fun n => decide (cnt n sm ≤ few)) (fun (k : Nat) => D.int (k : Int)) (so sm (sm + 1)) fun k hk => ⟨[.fz (.scl (ns.map D.int)), .fz (.lst (nats row)), .fz (.int (sm : Int)), .fz (.int (few : Int)), .un, .un, .un, .un, .un, .un, .un, .un, .un, .fz (.int (k : Int)), .un, .un, .un, .un, .un, .un, .un, .un, .un, .un, .un, .un], rfl, by
      have := law_count_n (w := sm) (by omega) ((so_mem _).mp hk).1
      generalize cnt k sm = q at *
      simp [l_count, this], fun _ => by simp⟩
  rw [so_filter, show min (sm + 1) (few + 1) = few + 1 by omega] at hcl
  change compF _ _ _ _ (nats (so sm (sm + 1))) = some (nats (so sm (few + 1))) at hcl
  have hsl := so_length (w := sm) (few := few) (by omega) (by omega)
  have hb64 : base sm (few + 1) ≤ 1000 := by
    have b1 := base_le sm (few + 1)
    have b2 : 2 ^ sm ≤ 2 ^ 6 := Nat.pow_le_pow_right (by omega) (by omega)
    have b3 := Nat.mul_le_mul (show few + 1 ≤ 7 by omega) b2
    omega
  have okl : okL (nats (so sm (few + 1))) = true := okL_of (by rw [nats_len, hsl]; omega)
  have hln : (nats (so sm (few + 1))).length = base sm (few + 1) := by rw [nats_len, hsl]
  have hts := top_states_eq (w := sm) (many := few) (by omega) (by omega)
  have rg1 : rgO 0 ((base sm (few + 1) : Nat) : Int) = .ok (rgD 0 (base sm (few + 1))) := rgO_n (by omega)
  obtain ⟨v5, v19, v20, f1⟩ := loop1 (a0 := .fz (.scl (ns.map D.int))) (a5 := .un) (a6 := .un) (a7 := .un) (a8 := .un) (a9 := .un) (a10 := .un) (a11 := .un) (a12 := .un) (a13 := .un) (a14 := .un) (a15 := .un) (a16 := .un) (a17 := .un) (a18 := .un) (a19 := .un) (a20 := .un) (a21 := .un) (a22 := .un) (a23 := .un) (a24 := .un) (a25 := .un) (row := row) (sm := sm) (few := few) (by omega) (by omega) h4 (by omega)
  have g2 := t2_ok (ns := ns) (row := row) (a2 := .fz (.int (sm : Int))) (a3 := .fz (.int (few : Int))) (a4 := .fz (.lst (nats (so sm (few + 1))))) (a5 := v5) (a19 := v19) (a20 := v20) h2 l2 h3 h4 l4 h5 l5
  have e0 : ([D.scl (ns.map D.int)].map SV.fz ++ List.replicate (26 - [D.scl (ns.map D.int)].length) SV.un) = [.fz (.scl (ns.map D.int)), .un, .un, .un, .un, .un, .un, .un, .un, .un, .un, .un, .un, .un, .un, .un, .un, .un, .un, .un, .un, .un, .un, .un, .un, .un] := rfl
  unfold F_law runF
  rw [b_law, e0]
  generalize nats (so sm (few + 1)) = LL at *
  generalize nats (so sm (sm + 1)) = LS at *
  generalize base sm (few + 1) = bb at *
  simp [hc0', hdig', ok6, x0, e_sm, x1, m1, e_few, hso, hcl, okl, hts, hln, al_i, rg1, f1, g2]
end K80

namespace K80
open PySem PySem.Spec PyProof.Rows L2 PL
section
variable {l : PySem.W.OpenLaw} {w : World} {K : PySem.W.Frag} {h : Heap} {mg : Str → Option Value} {fa : Addr}
theorem all_mk (X : K.In h) (G : h.Ns mainGlobals mg) (hfa : mg "law" = some (.ref fa)) (hF : ∀ ns : List Int, ns.length ≤ 63 → F_law [.scl (ns.map D.int)] = .ok (.bl true))
    {f__law_cell : Addr} {od__law_cell an__law_cell : Option Addr} {sl__law_cell : Array (Option Value)} {oc__law_cell kV__law_cell dc__law_cell pm__law_cell cd__law_cell ct__law_cell : Value}
    {f__law_digits : Addr} {od__law_digits an__law_digits : Option Addr} {sl__law_digits : Array (Option Value)} {oc__law_digits kV__law_digits dc__law_digits pm__law_digits cd__law_digits ct__law_digits : Value}
    {f__law_items : Addr} {od__law_items an__law_items : Option Addr} {sl__law_items : Array (Option Value)} {oc__law_items kV__law_items dc__law_items pm__law_items cd__law_items ct__law_items : Value}
    {f__law_count : Addr} {od__law_count an__law_count : Option Addr} {sl__law_count : Array (Option Value)} {oc__law_count kV__law_count dc__law_count pm__law_count cd__law_count ct__law_count : Value}
    {f__law_size_order : Addr} {od__law_size_order an__law_size_order : Option Addr} {sl__law_size_order : Array (Option Value)} {oc__law_size_order kV__law_size_order dc__law_size_order pm__law_size_order cd__law_size_order ct__law_size_order : Value}
    {f_choose : Addr} {od_choose an_choose : Option Addr} {sl_choose : Array (Option Value)} {oc_choose kV_choose dc_choose pm_choose cd_choose ct_choose : Value}
    {f_top_states : Addr} {od_top_states an_top_states : Option Addr} {sl_top_states : Array (Option Value)} {oc_top_states kV_top_states dc_top_states pm_top_states cd_top_states ct_top_states : Value}
    {f__law_alike : Addr} {od__law_alike an__law_alike : Option Addr} {sl__law_alike : Array (Option Value)} {oc__law_alike kV__law_alike dc__law_alike pm__law_alike cd__law_alike ct__law_alike : Value}
    {f_is_whole : Addr} {od_is_whole an_is_whole : Option Addr} {sl_is_whole : Array (Option Value)} {oc_is_whole kV_is_whole dc_is_whole pm_is_whole cd_is_whole ct_is_whole : Value}
    {f_frozen : Addr} {od_frozen an_frozen : Option Addr} {sl_frozen : Array (Option Value)} {oc_frozen kV_frozen dc_frozen pm_frozen cd_frozen ct_frozen : Value}
    {f_check_code : Addr} {od_check_code an_check_code : Option Addr} {sl_check_code : Array (Option Value)} {oc_check_code kV_check_code dc_check_code pm_check_code cd_check_code ct_check_code : Value}
    {f_greatest_within : Addr} {od_greatest_within an_greatest_within : Option Addr} {sl_greatest_within : Array (Option Value)} {oc_greatest_within kV_greatest_within dc_greatest_within pm_greatest_within cd_greatest_within ct_greatest_within : Value}
    {f_coded_state : Addr} {od_coded_state an_coded_state : Option Addr} {sl_coded_state : Array (Option Value)} {oc_coded_state kV_coded_state dc_coded_state pm_coded_state cd_coded_state ct_coded_state : Value}
    {f_full : Addr} {od_full an_full : Option Addr} {sl_full : Array (Option Value)} {oc_full kV_full dc_full pm_full cd_full ct_full : Value}
    {f_is_lot : Addr} {od_is_lot an_is_lot : Option Addr} {sl_is_lot : Array (Option Value)} {oc_is_lot kV_is_lot dc_is_lot pm_is_lot cd_is_lot ct_is_lot : Value}
    {f_items_of : Addr} {od_items_of an_items_of : Option Addr} {sl_items_of : Array (Option Value)} {oc_items_of kV_items_of dc_items_of pm_items_of cd_items_of ct_items_of : Value}
    {f_size : Addr} {od_size an_size : Option Addr} {sl_size : Array (Option Value)} {oc_size kV_size dc_size pm_size cd_size ct_size : Value}
    {f_state_code : Addr} {od_state_code an_state_code : Option Addr} {sl_state_code : Array (Option Value)} {oc_state_code kV_state_code dc_state_code pm_state_code cd_state_code ct_state_code : Value}
    {f__law_top : Addr} {od__law_top an__law_top : Option Addr} {sl__law_top : Array (Option Value)} {oc__law_top kV__law_top dc__law_top pm__law_top cd__law_top ct__law_top : Value}
    {f_lot_of : Addr} {od_lot_of an_lot_of : Option Addr} {sl_lot_of : Array (Option Value)} {oc_lot_of kV_lot_of dc_lot_of pm_lot_of cd_lot_of ct_lot_of : Value}
    {f_greatest_items : Addr} {od_greatest_items an_greatest_items : Option Addr} {sl_greatest_items : Array (Option Value)} {oc_greatest_items kV_greatest_items dc_greatest_items pm_greatest_items cd_greatest_items ct_greatest_items : Value}
    {f_joined_codes : Addr} {od_joined_codes an_joined_codes : Option Addr} {sl_joined_codes : Array (Option Value)} {oc_joined_codes kV_joined_codes dc_joined_codes pm_joined_codes cd_joined_codes ct_joined_codes : Value}
    {f__law_triangle : Addr} {od__law_triangle an__law_triangle : Option Addr} {sl__law_triangle : Array (Option Value)} {oc__law_triangle kV__law_triangle dc__law_triangle pm__law_triangle cd__law_triangle ct__law_triangle : Value}
    {f__law_drawn_state : Addr} {od__law_drawn_state an__law_drawn_state : Option Addr} {sl__law_drawn_state : Array (Option Value)} {oc__law_drawn_state kV__law_drawn_state dc__law_drawn_state pm__law_drawn_state cd__law_drawn_state ct__law_drawn_state : Value}
    {f__law_whole : Addr} {od__law_whole an__law_whole : Option Addr} {sl__law_whole : Array (Option Value)} {oc__law_whole kV__law_whole dc__law_whole pm__law_whole cd__law_whole ct__law_whole : Value}
    {f__law_code : Addr} {od__law_code an__law_code : Option Addr} {sl__law_code : Array (Option Value)} {oc__law_code kV__law_code dc__law_code pm__law_code cd__law_code ct__law_code : Value}
    {f__law_next : Addr} {od__law_next an__law_next : Option Addr} {sl__law_next : Array (Option Value)} {oc__law_next kV__law_next dc__law_next pm__law_next cd__law_next ct__law_next : Value}
    {f_bits : Addr} {od_bits an_bits : Option Addr} {sl_bits : Array (Option Value)} {oc_bits kV_bits dc_bits pm_bits cd_bits ct_bits : Value}
    {f__law_bits_right : Addr} {od__law_bits_right an__law_bits_right : Option Addr} {sl__law_bits_right : Array (Option Value)} {oc__law_bits_right kV__law_bits_right dc__law_bits_right pm__law_bits_right cd__law_bits_right ct__law_bits_right : Value}
    {f__law_refused : Addr} {od__law_refused an__law_refused : Option Addr} {sl__law_refused : Array (Option Value)} {oc__law_refused kV__law_refused dc__law_refused pm__law_refused cd__law_refused ct__law_refused : Value}
    {f_law : Addr} {od_law an_law : Option Addr} {sl_law : Array (Option Value)} {oc_law kV_law dc_law pm_law cd_law ct_law : Value}
    {C_BoardError : Addr}
    {C_NoSuchNumber : Addr}
    {C_BadLot : Addr}
    {nm_NoSuchNumber qn_NoSuchNumber N_NoSuchNumber bs_NoSuchNumber sn_NoSuchNumber sub_NoSuchNumber : _} {x1_NoSuchNumber x2_NoSuchNumber x3_NoSuchNumber x4_NoSuchNumber x5_NoSuchNumber x6_NoSuchNumber x7_NoSuchNumber x8_NoSuchNumber : _} {bm_NoSuchNumber : List Value}
    {fi_NoSuchNumber : Addr} {iod_NoSuchNumber ian_NoSuchNumber : Option Addr} {isl_NoSuchNumber : Array (Option Value)} {ioc_NoSuchNumber ikV_NoSuchNumber idc_NoSuchNumber ipm_NoSuchNumber icd_NoSuchNumber ict_NoSuchNumber : Value}
    {nm_BadLot qn_BadLot N_BadLot bs_BadLot sn_BadLot sub_BadLot : _} {x1_BadLot x2_BadLot x3_BadLot x4_BadLot x5_BadLot x6_BadLot x7_BadLot x8_BadLot : _} {bm_BadLot : List Value}
    {fi_BadLot : Addr} {iod_BadLot ian_BadLot : Option Addr} {isl_BadLot : Array (Option Value)} {ioc_BadLot ikV_BadLot idc_BadLot ipm_BadLot icd_BadLot ict_BadLot : Value}
    (a__law_cell : PySem.W.nsIn K mainGlobals "_law_cell" = some (some (.ref f__law_cell)))
    (l__law_cell : K.lookup f__law_cell = some ⟨oc__law_cell, od__law_cell, .func (PySem.W.fnOf "_law_cell" "_law_cell" (defArgs s__law_cell) (defBody s__law_cell) (defScope s__law_cell) .none kV__law_cell dc__law_cell pm__law_cell an__law_cell cd__law_cell ct__law_cell), sl__law_cell⟩)
    (c__law_cell : PySem.W.codeIn K cd__law_cell "_law_cell" = true)
    (k__law_cell : PySem.W.keepIn K (.ref f__law_cell) = true)
    (a__law_digits : PySem.W.nsIn K mainGlobals "_law_digits" = some (some (.ref f__law_digits)))
    (l__law_digits : K.lookup f__law_digits = some ⟨oc__law_digits, od__law_digits, .func (PySem.W.fnOf "_law_digits" "_law_digits" (defArgs s__law_digits) (defBody s__law_digits) (defScope s__law_digits) .none kV__law_digits dc__law_digits pm__law_digits an__law_digits cd__law_digits ct__law_digits), sl__law_digits⟩)
    (c__law_digits : PySem.W.codeIn K cd__law_digits "_law_digits" = true)
    (k__law_digits : PySem.W.keepIn K (.ref f__law_digits) = true)
    (a__law_items : PySem.W.nsIn K mainGlobals "_law_items" = some (some (.ref f__law_items)))
    (l__law_items : K.lookup f__law_items = some ⟨oc__law_items, od__law_items, .func (PySem.W.fnOf "_law_items" "_law_items" (defArgs s__law_items) (defBody s__law_items) (defScope s__law_items) .none kV__law_items dc__law_items pm__law_items an__law_items cd__law_items ct__law_items), sl__law_items⟩)
    (c__law_items : PySem.W.codeIn K cd__law_items "_law_items" = true)
    (k__law_items : PySem.W.keepIn K (.ref f__law_items) = true)
    (a__law_count : PySem.W.nsIn K mainGlobals "_law_count" = some (some (.ref f__law_count)))
    (l__law_count : K.lookup f__law_count = some ⟨oc__law_count, od__law_count, .func (PySem.W.fnOf "_law_count" "_law_count" (defArgs s__law_count) (defBody s__law_count) (defScope s__law_count) .none kV__law_count dc__law_count pm__law_count an__law_count cd__law_count ct__law_count), sl__law_count⟩)
    (c__law_count : PySem.W.codeIn K cd__law_count "_law_count" = true)
    (k__law_count : PySem.W.keepIn K (.ref f__law_count) = true)
    (a__law_size_order : PySem.W.nsIn K mainGlobals "_law_size_order" = some (some (.ref f__law_size_order)))
    (l__law_size_order : K.lookup f__law_size_order = some ⟨oc__law_size_order, od__law_size_order, .func (PySem.W.fnOf "_law_size_order" "_law_size_order" (defArgs s__law_size_order) (defBody s__law_size_order) (defScope s__law_size_order) .none kV__law_size_order dc__law_size_order pm__law_size_order an__law_size_order cd__law_size_order ct__law_size_order), sl__law_size_order⟩)
    (c__law_size_order : PySem.W.codeIn K cd__law_size_order "_law_size_order" = true)
    (k__law_size_order : PySem.W.keepIn K (.ref f__law_size_order) = true)
    (a_choose : PySem.W.nsIn K mainGlobals "choose" = some (some (.ref f_choose)))
    (l_choose : K.lookup f_choose = some ⟨oc_choose, od_choose, .func (PySem.W.fnOf "choose" "choose" (defArgs s_choose) (defBody s_choose) (defScope s_choose) .none kV_choose dc_choose pm_choose an_choose cd_choose ct_choose), sl_choose⟩)
    (c_choose : PySem.W.codeIn K cd_choose "choose" = true)
    (k_choose : PySem.W.keepIn K (.ref f_choose) = true)
    (a_top_states : PySem.W.nsIn K mainGlobals "top_states" = some (some (.ref f_top_states)))
    (l_top_states : K.lookup f_top_states = some ⟨oc_top_states, od_top_states, .func (PySem.W.fnOf "top_states" "top_states" (defArgs s_top_states) (defBody s_top_states) (defScope s_top_states) .none kV_top_states dc_top_states pm_top_states an_top_states cd_top_states ct_top_states), sl_top_states⟩)
    (c_top_states : PySem.W.codeIn K cd_top_states "top_states" = true)
    (k_top_states : PySem.W.keepIn K (.ref f_top_states) = true)
    (a__law_alike : PySem.W.nsIn K mainGlobals "_law_alike" = some (some (.ref f__law_alike)))
    (l__law_alike : K.lookup f__law_alike = some ⟨oc__law_alike, od__law_alike, .func (PySem.W.fnOf "_law_alike" "_law_alike" (defArgs s__law_alike) (defBody s__law_alike) (defScope s__law_alike) .none kV__law_alike dc__law_alike pm__law_alike an__law_alike cd__law_alike ct__law_alike), sl__law_alike⟩)
    (c__law_alike : PySem.W.codeIn K cd__law_alike "_law_alike" = true)
    (k__law_alike : PySem.W.keepIn K (.ref f__law_alike) = true)
    (a_is_whole : PySem.W.nsIn K mainGlobals "is_whole" = some (some (.ref f_is_whole)))
    (l_is_whole : K.lookup f_is_whole = some ⟨oc_is_whole, od_is_whole, .func (PySem.W.fnOf "is_whole" "is_whole" (defArgs s_is_whole) (defBody s_is_whole) (defScope s_is_whole) .none kV_is_whole dc_is_whole pm_is_whole an_is_whole cd_is_whole ct_is_whole), sl_is_whole⟩)
    (c_is_whole : PySem.W.codeIn K cd_is_whole "is_whole" = true)
    (k_is_whole : PySem.W.keepIn K (.ref f_is_whole) = true)
    (a_frozen : PySem.W.nsIn K mainGlobals "frozen" = some (some (.ref f_frozen)))
    (l_frozen : K.lookup f_frozen = some ⟨oc_frozen, od_frozen, .func (PySem.W.fnOf "frozen" "frozen" (defArgs s_frozen) (defBody s_frozen) (defScope s_frozen) .none kV_frozen dc_frozen pm_frozen an_frozen cd_frozen ct_frozen), sl_frozen⟩)
    (c_frozen : PySem.W.codeIn K cd_frozen "frozen" = true)
    (k_frozen : PySem.W.keepIn K (.ref f_frozen) = true)
    (a_check_code : PySem.W.nsIn K mainGlobals "check_code" = some (some (.ref f_check_code)))
    (l_check_code : K.lookup f_check_code = some ⟨oc_check_code, od_check_code, .func (PySem.W.fnOf "check_code" "check_code" (defArgs s_check_code) (defBody s_check_code) (defScope s_check_code) .none kV_check_code dc_check_code pm_check_code an_check_code cd_check_code ct_check_code), sl_check_code⟩)
    (c_check_code : PySem.W.codeIn K cd_check_code "check_code" = true)
    (k_check_code : PySem.W.keepIn K (.ref f_check_code) = true)
    (a_greatest_within : PySem.W.nsIn K mainGlobals "greatest_within" = some (some (.ref f_greatest_within)))
    (l_greatest_within : K.lookup f_greatest_within = some ⟨oc_greatest_within, od_greatest_within, .func (PySem.W.fnOf "greatest_within" "greatest_within" (defArgs s_greatest_within) (defBody s_greatest_within) (defScope s_greatest_within) .none kV_greatest_within dc_greatest_within pm_greatest_within an_greatest_within cd_greatest_within ct_greatest_within), sl_greatest_within⟩)
    (c_greatest_within : PySem.W.codeIn K cd_greatest_within "greatest_within" = true)
    (k_greatest_within : PySem.W.keepIn K (.ref f_greatest_within) = true)
    (a_coded_state : PySem.W.nsIn K mainGlobals "coded_state" = some (some (.ref f_coded_state)))
    (l_coded_state : K.lookup f_coded_state = some ⟨oc_coded_state, od_coded_state, .func (PySem.W.fnOf "coded_state" "coded_state" (defArgs s_coded_state) (defBody s_coded_state) (defScope s_coded_state) .none kV_coded_state dc_coded_state pm_coded_state an_coded_state cd_coded_state ct_coded_state), sl_coded_state⟩)
    (c_coded_state : PySem.W.codeIn K cd_coded_state "coded_state" = true)
    (k_coded_state : PySem.W.keepIn K (.ref f_coded_state) = true)
    (a_full : PySem.W.nsIn K mainGlobals "full" = some (some (.ref f_full)))
    (l_full : K.lookup f_full = some ⟨oc_full, od_full, .func (PySem.W.fnOf "full" "full" (defArgs s_full) (defBody s_full) (defScope s_full) .none kV_full dc_full pm_full an_full cd_full ct_full), sl_full⟩)
    (c_full : PySem.W.codeIn K cd_full "full" = true)
    (k_full : PySem.W.keepIn K (.ref f_full) = true)
    (a_is_lot : PySem.W.nsIn K mainGlobals "is_lot" = some (some (.ref f_is_lot)))
    (l_is_lot : K.lookup f_is_lot = some ⟨oc_is_lot, od_is_lot, .func (PySem.W.fnOf "is_lot" "is_lot" (defArgs s_is_lot) (defBody s_is_lot) (defScope s_is_lot) .none kV_is_lot dc_is_lot pm_is_lot an_is_lot cd_is_lot ct_is_lot), sl_is_lot⟩)
    (c_is_lot : PySem.W.codeIn K cd_is_lot "is_lot" = true)
    (k_is_lot : PySem.W.keepIn K (.ref f_is_lot) = true)
    (a_items_of : PySem.W.nsIn K mainGlobals "items_of" = some (some (.ref f_items_of)))
    (l_items_of : K.lookup f_items_of = some ⟨oc_items_of, od_items_of, .func (PySem.W.fnOf "items_of" "items_of" (defArgs s_items_of) (defBody s_items_of) (defScope s_items_of) .none kV_items_of dc_items_of pm_items_of an_items_of cd_items_of ct_items_of), sl_items_of⟩)
    (c_items_of : PySem.W.codeIn K cd_items_of "items_of" = true)
    (k_items_of : PySem.W.keepIn K (.ref f_items_of) = true)
    (a_size : PySem.W.nsIn K mainGlobals "size" = some (some (.ref f_size)))
    (l_size : K.lookup f_size = some ⟨oc_size, od_size, .func (PySem.W.fnOf "size" "size" (defArgs s_size) (defBody s_size) (defScope s_size) .none kV_size dc_size pm_size an_size cd_size ct_size), sl_size⟩)
    (c_size : PySem.W.codeIn K cd_size "size" = true)
    (k_size : PySem.W.keepIn K (.ref f_size) = true)
    (a_state_code : PySem.W.nsIn K mainGlobals "state_code" = some (some (.ref f_state_code)))
    (l_state_code : K.lookup f_state_code = some ⟨oc_state_code, od_state_code, .func (PySem.W.fnOf "state_code" "state_code" (defArgs s_state_code) (defBody s_state_code) (defScope s_state_code) .none kV_state_code dc_state_code pm_state_code an_state_code cd_state_code ct_state_code), sl_state_code⟩)
    (c_state_code : PySem.W.codeIn K cd_state_code "state_code" = true)
    (k_state_code : PySem.W.keepIn K (.ref f_state_code) = true)
    (a__law_top : PySem.W.nsIn K mainGlobals "_law_top" = some (some (.ref f__law_top)))
    (l__law_top : K.lookup f__law_top = some ⟨oc__law_top, od__law_top, .func (PySem.W.fnOf "_law_top" "_law_top" (defArgs s__law_top) (defBody s__law_top) (defScope s__law_top) .none kV__law_top dc__law_top pm__law_top an__law_top cd__law_top ct__law_top), sl__law_top⟩)
    (c__law_top : PySem.W.codeIn K cd__law_top "_law_top" = true)
    (k__law_top : PySem.W.keepIn K (.ref f__law_top) = true)
    (a_lot_of : PySem.W.nsIn K mainGlobals "lot_of" = some (some (.ref f_lot_of)))
    (l_lot_of : K.lookup f_lot_of = some ⟨oc_lot_of, od_lot_of, .func (PySem.W.fnOf "lot_of" "lot_of" (defArgs s_lot_of) (defBody s_lot_of) (defScope s_lot_of) .none kV_lot_of dc_lot_of pm_lot_of an_lot_of cd_lot_of ct_lot_of), sl_lot_of⟩)
    (c_lot_of : PySem.W.codeIn K cd_lot_of "lot_of" = true)
    (k_lot_of : PySem.W.keepIn K (.ref f_lot_of) = true)
    (a_greatest_items : PySem.W.nsIn K mainGlobals "greatest_items" = some (some (.ref f_greatest_items)))
    (l_greatest_items : K.lookup f_greatest_items = some ⟨oc_greatest_items, od_greatest_items, .func (PySem.W.fnOf "greatest_items" "greatest_items" (defArgs s_greatest_items) (defBody s_greatest_items) (defScope s_greatest_items) .none kV_greatest_items dc_greatest_items pm_greatest_items an_greatest_items cd_greatest_items ct_greatest_items), sl_greatest_items⟩)
    (c_greatest_items : PySem.W.codeIn K cd_greatest_items "greatest_items" = true)
    (k_greatest_items : PySem.W.keepIn K (.ref f_greatest_items) = true)
    (a_joined_codes : PySem.W.nsIn K mainGlobals "joined_codes" = some (some (.ref f_joined_codes)))
    (l_joined_codes : K.lookup f_joined_codes = some ⟨oc_joined_codes, od_joined_codes, .func (PySem.W.fnOf "joined_codes" "joined_codes" (defArgs s_joined_codes) (defBody s_joined_codes) (defScope s_joined_codes) .none kV_joined_codes dc_joined_codes pm_joined_codes an_joined_codes cd_joined_codes ct_joined_codes), sl_joined_codes⟩)
    (c_joined_codes : PySem.W.codeIn K cd_joined_codes "joined_codes" = true)
    (k_joined_codes : PySem.W.keepIn K (.ref f_joined_codes) = true)
    (a__law_triangle : PySem.W.nsIn K mainGlobals "_law_triangle" = some (some (.ref f__law_triangle)))
    (l__law_triangle : K.lookup f__law_triangle = some ⟨oc__law_triangle, od__law_triangle, .func (PySem.W.fnOf "_law_triangle" "_law_triangle" (defArgs s__law_triangle) (defBody s__law_triangle) (defScope s__law_triangle) .none kV__law_triangle dc__law_triangle pm__law_triangle an__law_triangle cd__law_triangle ct__law_triangle), sl__law_triangle⟩)
    (c__law_triangle : PySem.W.codeIn K cd__law_triangle "_law_triangle" = true)
    (k__law_triangle : PySem.W.keepIn K (.ref f__law_triangle) = true)
    (a__law_drawn_state : PySem.W.nsIn K mainGlobals "_law_drawn_state" = some (some (.ref f__law_drawn_state)))
    (l__law_drawn_state : K.lookup f__law_drawn_state = some ⟨oc__law_drawn_state, od__law_drawn_state, .func (PySem.W.fnOf "_law_drawn_state" "_law_drawn_state" (defArgs s__law_drawn_state) (defBody s__law_drawn_state) (defScope s__law_drawn_state) .none kV__law_drawn_state dc__law_drawn_state pm__law_drawn_state an__law_drawn_state cd__law_drawn_state ct__law_drawn_state), sl__law_drawn_state⟩)
    (c__law_drawn_state : PySem.W.codeIn K cd__law_drawn_state "_law_drawn_state" = true)
    (k__law_drawn_state : PySem.W.keepIn K (.ref f__law_drawn_state) = true)
    (a__law_whole : PySem.W.nsIn K mainGlobals "_law_whole" = some (some (.ref f__law_whole)))
    (l__law_whole : K.lookup f__law_whole = some ⟨oc__law_whole, od__law_whole, .func (PySem.W.fnOf "_law_whole" "_law_whole" (defArgs s__law_whole) (defBody s__law_whole) (defScope s__law_whole) .none kV__law_whole dc__law_whole pm__law_whole an__law_whole cd__law_whole ct__law_whole), sl__law_whole⟩)
    (c__law_whole : PySem.W.codeIn K cd__law_whole "_law_whole" = true)
    (k__law_whole : PySem.W.keepIn K (.ref f__law_whole) = true)
    (a__law_code : PySem.W.nsIn K mainGlobals "_law_code" = some (some (.ref f__law_code)))
    (l__law_code : K.lookup f__law_code = some ⟨oc__law_code, od__law_code, .func (PySem.W.fnOf "_law_code" "_law_code" (defArgs s__law_code) (defBody s__law_code) (defScope s__law_code) .none kV__law_code dc__law_code pm__law_code an__law_code cd__law_code ct__law_code), sl__law_code⟩)
    (c__law_code : PySem.W.codeIn K cd__law_code "_law_code" = true)
    (k__law_code : PySem.W.keepIn K (.ref f__law_code) = true)
    (a__law_next : PySem.W.nsIn K mainGlobals "_law_next" = some (some (.ref f__law_next)))
    (l__law_next : K.lookup f__law_next = some ⟨oc__law_next, od__law_next, .func (PySem.W.fnOf "_law_next" "_law_next" (defArgs s__law_next) (defBody s__law_next) (defScope s__law_next) .none kV__law_next dc__law_next pm__law_next an__law_next cd__law_next ct__law_next), sl__law_next⟩)
    (c__law_next : PySem.W.codeIn K cd__law_next "_law_next" = true)
    (k__law_next : PySem.W.keepIn K (.ref f__law_next) = true)
    (a_bits : PySem.W.nsIn K mainGlobals "bits" = some (some (.ref f_bits)))
    (l_bits : K.lookup f_bits = some ⟨oc_bits, od_bits, .func (PySem.W.fnOf "bits" "bits" (defArgs s_bits) (defBody s_bits) (defScope s_bits) .none kV_bits dc_bits pm_bits an_bits cd_bits ct_bits), sl_bits⟩)
    (c_bits : PySem.W.codeIn K cd_bits "bits" = true)
    (k_bits : PySem.W.keepIn K (.ref f_bits) = true)
    (a__law_bits_right : PySem.W.nsIn K mainGlobals "_law_bits_right" = some (some (.ref f__law_bits_right)))
    (l__law_bits_right : K.lookup f__law_bits_right = some ⟨oc__law_bits_right, od__law_bits_right, .func (PySem.W.fnOf "_law_bits_right" "_law_bits_right" (defArgs s__law_bits_right) (defBody s__law_bits_right) (defScope s__law_bits_right) .none kV__law_bits_right dc__law_bits_right pm__law_bits_right an__law_bits_right cd__law_bits_right ct__law_bits_right), sl__law_bits_right⟩)
    (c__law_bits_right : PySem.W.codeIn K cd__law_bits_right "_law_bits_right" = true)
    (k__law_bits_right : PySem.W.keepIn K (.ref f__law_bits_right) = true)
    (a__law_refused : PySem.W.nsIn K mainGlobals "_law_refused" = some (some (.ref f__law_refused)))
    (l__law_refused : K.lookup f__law_refused = some ⟨oc__law_refused, od__law_refused, .func (PySem.W.fnOf "_law_refused" "_law_refused" (defArgs s__law_refused) (defBody s__law_refused) (defScope s__law_refused) .none kV__law_refused dc__law_refused pm__law_refused an__law_refused cd__law_refused ct__law_refused), sl__law_refused⟩)
    (c__law_refused : PySem.W.codeIn K cd__law_refused "_law_refused" = true)
    (k__law_refused : PySem.W.keepIn K (.ref f__law_refused) = true)
    (a_law : PySem.W.nsIn K mainGlobals "law" = some (some (.ref f_law)))
    (l_law : K.lookup f_law = some ⟨oc_law, od_law, .func (PySem.W.fnOf "law" "law" (defArgs s_law) (defBody s_law) (defScope s_law) .none kV_law dc_law pm_law an_law cd_law ct_law), sl_law⟩)
    (c_law : PySem.W.codeIn K cd_law "law" = true)
    (k_law : PySem.W.keepIn K (.ref f_law) = true)
    (ca_BoardError : PySem.W.nsIn K mainGlobals "BoardError" = some (some (.ref C_BoardError)))
    (ca_NoSuchNumber : PySem.W.nsIn K mainGlobals "NoSuchNumber" = some (some (.ref C_NoSuchNumber)))
    (ca_BadLot : PySem.W.nsIn K mainGlobals "BadLot" = some (some (.ref C_BadLot)))
    (cl_NoSuchNumber : K.lookup C_NoSuchNumber = some (excClassObj nm_NoSuchNumber qn_NoSuchNumber C_NoSuchNumber N_NoSuchNumber bs_NoSuchNumber bm_NoSuchNumber true sn_NoSuchNumber sub_NoSuchNumber x1_NoSuchNumber x2_NoSuchNumber x3_NoSuchNumber x4_NoSuchNumber x5_NoSuchNumber x6_NoSuchNumber x7_NoSuchNumber x8_NoSuchNumber "ValueError.__new__"))
    (cr_NoSuchNumber : PySem.HandSPX.refsVE bm_NoSuchNumber = true)
    (cs_NoSuchNumber : PySem.W.findIn K (.ref C_NoSuchNumber) "__setattr__" = some (some (.builtin "object.__setattr__")))
    (ce_NoSuchNumber : PySem.W.subIn K (.ref C_NoSuchNumber) (.type "BaseException") = some true)
    (ct_NoSuchNumber : PySem.W.typeIn K (.ref C_NoSuchNumber) = some (.type "type"))
    (ck_NoSuchNumber : PySem.W.keepIn K (.ref C_NoSuchNumber) = true)
    (ci_NoSuchNumber : PySem.W.findIn K (.ref C_NoSuchNumber) "__init__" = some (some (.ref fi_NoSuchNumber)))
    (cy_NoSuchNumber : PySem.W.typeIn K (.ref fi_NoSuchNumber) = some (.type "function"))
    (il_NoSuchNumber : K.lookup fi_NoSuchNumber = some ⟨ioc_NoSuchNumber, iod_NoSuchNumber, .func (PySem.W.fnOf "__init__" "NoSuchNumber.__init__" (defArgs s_init_NoSuchNumber) (defBody s_init_NoSuchNumber) (defScope s_init_NoSuchNumber) .none ikV_NoSuchNumber idc_NoSuchNumber ipm_NoSuchNumber ian_NoSuchNumber icd_NoSuchNumber ict_NoSuchNumber), isl_NoSuchNumber⟩)
    (ic_NoSuchNumber : PySem.W.codeIn K icd_NoSuchNumber "NoSuchNumber.__init__" = true)
    (ik_NoSuchNumber : PySem.W.keepIn K (.ref fi_NoSuchNumber) = true)
    (ga_NoSuchNumber : PySem.W.findIn K (.ref C_NoSuchNumber) "__getattribute__" = some (some (.builtin "BaseException.__getattribute__")))
    (gg_NoSuchNumber : PySem.W.findIn K (.ref C_NoSuchNumber) "__getattr__" = some none)
    (hd_NoSuchNumber : PySem.W.hasDictIn K C_NoSuchNumber = true)
    (cn_NoSuchNumber : PySem.W.findIn K (.ref C_NoSuchNumber) "__class__" = some (some (.builtin "object.__class__")))
    (cm_NoSuchNumber : PySem.W.mroIn K C_NoSuchNumber (.type "object") = some true)
    (sb_NoSuchNumber : PySem.W.subIn K (.ref C_NoSuchNumber) (.ref C_BoardError) = some true)
    (no_NoSuchNumber_lot : PySem.W.findIn K (.ref C_NoSuchNumber) "lot" = some none)
    (no_NoSuchNumber_number : PySem.W.findIn K (.ref C_NoSuchNumber) "number" = some none)
    (ki_NoSuchNumber_BadLot : PySem.W.subIn K (.ref C_NoSuchNumber) (.ref C_BadLot) = some false)
    (ki_NoSuchNumber_NoSuchNumber : PySem.W.subIn K (.ref C_NoSuchNumber) (.ref C_NoSuchNumber) = some true)
    (cl_BadLot : K.lookup C_BadLot = some (excClassObj nm_BadLot qn_BadLot C_BadLot N_BadLot bs_BadLot bm_BadLot true sn_BadLot sub_BadLot x1_BadLot x2_BadLot x3_BadLot x4_BadLot x5_BadLot x6_BadLot x7_BadLot x8_BadLot "ValueError.__new__"))
    (cr_BadLot : PySem.HandSPX.refsVE bm_BadLot = true)
    (cs_BadLot : PySem.W.findIn K (.ref C_BadLot) "__setattr__" = some (some (.builtin "object.__setattr__")))
    (ce_BadLot : PySem.W.subIn K (.ref C_BadLot) (.type "BaseException") = some true)
    (ct_BadLot : PySem.W.typeIn K (.ref C_BadLot) = some (.type "type"))
    (ck_BadLot : PySem.W.keepIn K (.ref C_BadLot) = true)
    (ci_BadLot : PySem.W.findIn K (.ref C_BadLot) "__init__" = some (some (.ref fi_BadLot)))
    (cy_BadLot : PySem.W.typeIn K (.ref fi_BadLot) = some (.type "function"))
    (il_BadLot : K.lookup fi_BadLot = some ⟨ioc_BadLot, iod_BadLot, .func (PySem.W.fnOf "__init__" "BadLot.__init__" (defArgs s_init_BadLot) (defBody s_init_BadLot) (defScope s_init_BadLot) .none ikV_BadLot idc_BadLot ipm_BadLot ian_BadLot icd_BadLot ict_BadLot), isl_BadLot⟩)
    (ic_BadLot : PySem.W.codeIn K icd_BadLot "BadLot.__init__" = true)
    (ik_BadLot : PySem.W.keepIn K (.ref fi_BadLot) = true)
    (ga_BadLot : PySem.W.findIn K (.ref C_BadLot) "__getattribute__" = some (some (.builtin "BaseException.__getattribute__")))
    (gg_BadLot : PySem.W.findIn K (.ref C_BadLot) "__getattr__" = some none)
    (hd_BadLot : PySem.W.hasDictIn K C_BadLot = true)
    (cn_BadLot : PySem.W.findIn K (.ref C_BadLot) "__class__" = some (some (.builtin "object.__class__")))
    (cm_BadLot : PySem.W.mroIn K C_BadLot (.type "object") = some true)
    (sb_BadLot : PySem.W.subIn K (.ref C_BadLot) (.ref C_BoardError) = some true)
    (no_BadLot_lot : PySem.W.findIn K (.ref C_BadLot) "lot" = some none)
    (no_BadLot_number : PySem.W.findIn K (.ref C_BadLot) "number" = some none)
    (ki_BadLot_BadLot : PySem.W.subIn K (.ref C_BadLot) (.ref C_BadLot) = some true)
    (ki_BadLot_NoSuchNumber : PySem.W.subIn K (.ref C_BadLot) (.ref C_NoSuchNumber) = some false)
    (ce_BoardError : PySem.W.subIn K (.ref C_BoardError) (.type "BaseException") = some true)
    (ct_BoardError : PySem.W.typeIn K (.ref C_BoardError) = some (.type "type"))
    (hd_BoardError : PySem.W.hasDictIn K C_BoardError = true)
    (gs : PySem.W.specialIn K (.builtin "object.__class__") "__get__" = some (some (.builtin "getset_descriptor.__get__")))
    (gt : PySem.W.takesIn K (.builtin "object.__class__") = some true)
    (z_all : PySem.W.nsIn K mainGlobals "all" = some none)
    (z_bool : PySem.W.nsIn K mainGlobals "bool" = some none)
    (z_int : PySem.W.nsIn K mainGlobals "int" = some none)
    (z_isinstance : PySem.W.nsIn K mainGlobals "isinstance" = some none)
    (z_len : PySem.W.nsIn K mainGlobals "len" = some none)
    (z_list : PySem.W.nsIn K mainGlobals "list" = some none)
    (z_max : PySem.W.nsIn K mainGlobals "max" = some none)
    (z_range : PySem.W.nsIn K mainGlobals "range" = some none)
    (z_str : PySem.W.nsIn K mainGlobals "str" = some none)
    (z_sum : PySem.W.nsIn K mainGlobals "sum" = some none)
    (z_tuple : PySem.W.nsIn K mainGlobals "tuple" = some none) :
    ∃ fd : FuncData, (∀ (s : Shared) (v : Value), BindsTo s fd ⟨[v], []⟩ [("script", v)]) ∧ ∀ base : Heap, K.In base → base.Ns mainGlobals mg → FnOk l.prog w K mg base (L2N.CX l.prog w) 15 fa fd ["script"] (spLaw K) := by
  have e := hfa.symm.trans (PySem.W.mg_of X G a_law)
  cases e
  refine ⟨PySem.W.fnOf "law" "law" (defArgs s_law) (defBody s_law) (defScope s_law) .none kV_law dc_law pm_law an_law cd_law ct_law, fun s v => .of_eq rfl, fun base _ _ => ?_⟩
  have mc_BoardError := PySem.W.mg_of X G ca_BoardError
  have mc_NoSuchNumber := PySem.W.mg_of X G ca_NoSuchNumber
  have mc_BadLot := PySem.W.mg_of X G ca_BadLot
  have T : Tp K mg C_BoardError C_BadLot C_NoSuchNumber := ⟨PySem.W.mg_none_of X G z_all,
    PySem.W.mg_none_of X G z_bool,
    PySem.W.mg_none_of X G z_int,
    PySem.W.mg_none_of X G z_isinstance,
    PySem.W.mg_none_of X G z_len,
    PySem.W.mg_none_of X G z_list,
    PySem.W.mg_none_of X G z_max,
    PySem.W.mg_none_of X G z_range,
    PySem.W.mg_none_of X G z_str,
    PySem.W.mg_none_of X G z_sum,
    PySem.W.mg_none_of X G z_tuple,
    mc_BoardError,
    mc_BadLot,
    (fun C CA b hb hc => by
      unfold isa_BadLot at hb
      split at hb
      · rename_i z; subst z; cases hb; rw [mc_NoSuchNumber] at hc; cases hc; exact kit_ref hd_BadLot ct_BadLot ki_BadLot_BadLot ki_NoSuchNumber_BadLot
      split at hb
      · rename_i z; subst z; cases hb; rw [mc_BadLot] at hc; cases hc; exact kit_ref hd_BadLot ct_BadLot ki_BadLot_BadLot ki_BadLot_BadLot
      cases hb),
    mc_NoSuchNumber,
    (fun C CA b hb hc => by
      unfold isa_NoSuchNumber at hb
      split at hb
      · rename_i z; subst z; cases hb; rw [mc_NoSuchNumber] at hc; cases hc; exact kit_ref hd_NoSuchNumber ct_NoSuchNumber ki_NoSuchNumber_NoSuchNumber ki_NoSuchNumber_NoSuchNumber
      split at hb
      · rename_i z; subst z; cases hb; rw [mc_BadLot] at hc; cases hc; exact kit_ref hd_NoSuchNumber ct_NoSuchNumber ki_NoSuchNumber_NoSuchNumber ki_BadLot_NoSuchNumber
      cases hb),
    (fun C CA b hb hc => by
      unfold sub_err at hb
      split at hb
      · rename_i z; subst z; cases hb; rw [mc_NoSuchNumber] at hc; cases hc; exact ⟨⟨⟨ga_NoSuchNumber, gg_NoSuchNumber, ce_NoSuchNumber, hd_NoSuchNumber⟩, fun n hn => by
          simp only [attrs_err, List.mem_cons, List.not_mem_nil, or_false] at hn
          rcases hn with rfl | rfl <;> first | exact no_NoSuchNumber_lot | exact no_NoSuchNumber_number, cls_some hd_NoSuchNumber, cn_NoSuchNumber, gs, gt, cm_NoSuchNumber⟩, PySem.W.exm_ref ce_BoardError hd_BoardError ct_BoardError sb_NoSuchNumber⟩
      split at hb
      · rename_i z; subst z; cases hb; rw [mc_BadLot] at hc; cases hc; exact ⟨⟨⟨ga_BadLot, gg_BadLot, ce_BadLot, hd_BadLot⟩, fun n hn => by
          simp only [attrs_err, List.mem_cons, List.not_mem_nil, or_false] at hn
          rcases hn with rfl | rfl <;> first | exact no_BadLot_lot | exact no_BadLot_number, cls_some hd_BadLot, cn_BadLot, gs, gt, cm_BadLot⟩, PySem.W.exm_ref ce_BoardError hd_BoardError ct_BoardError sb_BadLot⟩
      cases hb)⟩
  have F__law_cell' := fun_mk (st := s__law_cell) l__law_cell c__law_cell k__law_cell
  have b__law_cell := F__law_cell'.binds (ps := ["script", "k"]) fun _ _ _ _ _ _ us hl => match us, hl with | [_, _], _ => rfl
  have G__law_cell : FnP l.prog w K mg base 1 "_law_cell" 2 F__law_cell := ok__law_cell F__law_cell' b__law_cell (PySem.W.mg_of X G a__law_cell) T
  have F__law_digits' := fun_mk (st := s__law_digits) l__law_digits c__law_digits k__law_digits
  have b__law_digits := F__law_digits'.binds (ps := ["cell", "sizes"]) fun _ _ _ _ _ _ us hl => match us, hl with | [_, _], _ => rfl
  have G__law_digits : FnP l.prog w K mg base 1 "_law_digits" 2 F__law_digits := ok__law_digits F__law_digits' b__law_digits (PySem.W.mg_of X G a__law_digits) T
  have F__law_items' := fun_mk (st := s__law_items) l__law_items c__law_items k__law_items
  have b__law_items := F__law_items'.binds (ps := ["lot"]) fun _ _ _ _ _ _ us hl => match us, hl with | [_], _ => rfl
  have G__law_items : FnP l.prog w K mg base 1 "_law_items" 1 F__law_items := ok__law_items F__law_items' b__law_items (PySem.W.mg_of X G a__law_items) T
  have F__law_count' := fun_mk (st := s__law_count) l__law_count c__law_count k__law_count
  have b__law_count := F__law_count'.binds (ps := ["lot"]) fun _ _ _ _ _ _ us hl => match us, hl with | [_], _ => rfl
  have G__law_count : FnP l.prog w K mg base 2 "_law_count" 1 F__law_count := ok__law_count F__law_count' b__law_count (PySem.W.mg_of X G a__law_count) T G__law_items
  have F__law_size_order' := fun_mk (st := s__law_size_order) l__law_size_order c__law_size_order k__law_size_order
  have b__law_size_order := F__law_size_order'.binds (ps := ["width"]) fun _ _ _ _ _ _ us hl => match us, hl with | [_], _ => rfl
  have G__law_size_order : FnP l.prog w K mg base 3 "_law_size_order" 1 F__law_size_order := ok__law_size_order F__law_size_order' b__law_size_order (PySem.W.mg_of X G a__law_size_order) T G__law_count
  have F_choose' := fun_mk (st := s_choose) l_choose c_choose k_choose
  have b_choose := F_choose'.binds (ps := ["many", "some"]) fun _ _ _ _ _ _ us hl => match us, hl with | [_, _], _ => rfl
  have G_choose : FnP l.prog w K mg base 1 "choose" 2 F_choose := ok_choose F_choose' b_choose (PySem.W.mg_of X G a_choose) T
  have F_top_states' := fun_mk (st := s_top_states) l_top_states c_top_states k_top_states
  have b_top_states := F_top_states'.binds (ps := ["width", "many"]) fun _ _ _ _ _ _ us hl => match us, hl with | [_, _], _ => rfl
  have G_top_states : FnP l.prog w K mg base 2 "top_states" 2 F_top_states := ok_top_states F_top_states' b_top_states (PySem.W.mg_of X G a_top_states) T G_choose
  have F__law_alike' := fun_mk (st := s__law_alike) l__law_alike c__law_alike k__law_alike
  have b__law_alike := F__law_alike'.binds (ps := ["told", "due"]) fun _ _ _ _ _ _ us hl => match us, hl with | [_, _], _ => rfl
  have G__law_alike : FnP l.prog w K mg base 1 "_law_alike" 2 F__law_alike := ok__law_alike F__law_alike' b__law_alike (PySem.W.mg_of X G a__law_alike) T
  have H__law_alike : FnHP l.prog w K mg base 1 "_law_alike" 2 F__law_alike := hk__law_alike F__law_alike' b__law_alike (PySem.W.mg_of X G a__law_alike) T
  have F_is_whole' := fun_mk (st := s_is_whole) l_is_whole c_is_whole k_is_whole
  have b_is_whole := F_is_whole'.binds (ps := ["value"]) fun _ _ _ _ _ _ us hl => match us, hl with | [_], _ => rfl
  have G_is_whole : FnP l.prog w K mg base 1 "is_whole" 1 F_is_whole := ok_is_whole F_is_whole' b_is_whole (PySem.W.mg_of X G a_is_whole) T
  have F_frozen' := fun_mk (st := s_frozen) l_frozen c_frozen k_frozen
  have b_frozen := F_frozen'.binds (ps := ["value"]) fun _ _ _ _ _ _ us hl => match us, hl with | [_], _ => rfl
  have G_frozen : FnP l.prog w K mg base 8 "frozen" 1 F_frozen := ok_frozen F_frozen' b_frozen (PySem.W.mg_of X G a_frozen) T
  have Fi_NoSuchNumber := fun_mk (st := s_init_NoSuchNumber) il_NoSuchNumber ic_NoSuchNumber ik_NoSuchNumber
  have bi_NoSuchNumber := Fi_NoSuchNumber.binds (ps := ["self", "number"]) fun _ _ _ _ _ _ us hl => match us, hl with | [_, _], _ => rfl
  have X_NoSuchNumber : ExcP l.prog w K mg base 9 "NoSuchNumber" 1 I_NoSuchNumber := ox_NoSuchNumber Fi_NoSuchNumber bi_NoSuchNumber mc_NoSuchNumber ⟨⟨_, _, _, _, _, _, _, _, _, _, _, _, _, _, _, cl_NoSuchNumber, cr_NoSuchNumber⟩, cs_NoSuchNumber, ce_NoSuchNumber, ct_NoSuchNumber, ck_NoSuchNumber⟩ ci_NoSuchNumber cy_NoSuchNumber no_NoSuchNumber_number T G_frozen
  have F_check_code' := fun_mk (st := s_check_code) l_check_code c_check_code k_check_code
  have b_check_code := F_check_code'.binds (ps := ["width", "many", "code"]) fun _ _ _ _ _ _ us hl => match us, hl with | [_, _, _], _ => rfl
  have G_check_code : FnP l.prog w K mg base 11 "check_code" 3 F_check_code := ok_check_code F_check_code' b_check_code (PySem.W.mg_of X G a_check_code) T G_is_whole G_top_states X_NoSuchNumber
  have F_greatest_within' := fun_mk (st := s_greatest_within) l_greatest_within c_greatest_within k_greatest_within
  have b_greatest_within := F_greatest_within'.binds (ps := ["rest", "some", "width"]) fun _ _ _ _ _ _ us hl => match us, hl with | [_, _, _], _ => rfl
  have G_greatest_within : FnP l.prog w K mg base 2 "greatest_within" 3 F_greatest_within := ok_greatest_within F_greatest_within' b_greatest_within (PySem.W.mg_of X G a_greatest_within) T G_choose
  have F_coded_state' := fun_mk (st := s_coded_state) l_coded_state c_coded_state k_coded_state
  have b_coded_state := F_coded_state'.binds (ps := ["width", "many", "code"]) fun _ _ _ _ _ _ us hl => match us, hl with | [_, _, _], _ => rfl
  have G_coded_state : FnP l.prog w K mg base 12 "coded_state" 3 F_coded_state := ok_coded_state F_coded_state' b_coded_state (PySem.W.mg_of X G a_coded_state) T G_check_code G_choose G_greatest_within
  have F_full' := fun_mk (st := s_full) l_full c_full k_full
  have b_full := F_full'.binds (ps := ["width"]) fun _ _ _ _ _ _ us hl => match us, hl with | [_], _ => rfl
  have G_full : FnP l.prog w K mg base 1 "full" 1 F_full := ok_full F_full' b_full (PySem.W.mg_of X G a_full) T
  have F_is_lot' := fun_mk (st := s_is_lot) l_is_lot c_is_lot k_is_lot
  have b_is_lot := F_is_lot'.binds (ps := ["value", "width"]) fun _ _ _ _ _ _ us hl => match us, hl with | [_, _], _ => rfl
  have G_is_lot : FnP l.prog w K mg base 2 "is_lot" 2 F_is_lot := ok_is_lot F_is_lot' b_is_lot (PySem.W.mg_of X G a_is_lot) T G_is_whole G_full
  have F_items_of' := fun_mk (st := s_items_of) l_items_of c_items_of k_items_of
  have b_items_of := F_items_of'.binds (ps := ["lot"]) fun _ _ _ _ _ _ us hl => match us, hl with | [_], _ => rfl
  have G_items_of : FnP l.prog w K mg base 1 "items_of" 1 F_items_of := ok_items_of F_items_of' b_items_of (PySem.W.mg_of X G a_items_of) T
  have F_size' := fun_mk (st := s_size) l_size c_size k_size
  have b_size := F_size'.binds (ps := ["lot"]) fun _ _ _ _ _ _ us hl => match us, hl with | [_], _ => rfl
  have G_size : FnP l.prog w K mg base 2 "size" 1 F_size := ok_size F_size' b_size (PySem.W.mg_of X G a_size) T G_items_of
  have Fi_BadLot := fun_mk (st := s_init_BadLot) il_BadLot ic_BadLot ik_BadLot
  have bi_BadLot := Fi_BadLot.binds (ps := ["self", "lot"]) fun _ _ _ _ _ _ us hl => match us, hl with | [_, _], _ => rfl
  have X_BadLot : ExcP l.prog w K mg base 9 "BadLot" 1 I_BadLot := ox_BadLot Fi_BadLot bi_BadLot mc_BadLot ⟨⟨_, _, _, _, _, _, _, _, _, _, _, _, _, _, _, cl_BadLot, cr_BadLot⟩, cs_BadLot, ce_BadLot, ct_BadLot, ck_BadLot⟩ ci_BadLot cy_BadLot no_BadLot_lot T G_frozen
  have F_state_code' := fun_mk (st := s_state_code) l_state_code c_state_code k_state_code
  have b_state_code := F_state_code'.binds (ps := ["width", "many", "lot"]) fun _ _ _ _ _ _ us hl => match us, hl with | [_, _, _], _ => rfl
  have G_state_code : FnP l.prog w K mg base 11 "state_code" 3 F_state_code := ok_state_code F_state_code' b_state_code (PySem.W.mg_of X G a_state_code) T G_is_lot G_size G_items_of G_choose X_BadLot
  have F__law_top' := fun_mk (st := s__law_top) l__law_top c__law_top k__law_top
  have b__law_top := F__law_top'.binds (ps := ["lot", "many"]) fun _ _ _ _ _ _ us hl => match us, hl with | [_, _], _ => rfl
  have G__law_top : FnP l.prog w K mg base 2 "_law_top" 2 F__law_top := ok__law_top F__law_top' b__law_top (PySem.W.mg_of X G a__law_top) T G__law_items
  have F_lot_of' := fun_mk (st := s_lot_of) l_lot_of c_lot_of k_lot_of
  have b_lot_of := F_lot_of'.binds (ps := ["items"]) fun _ _ _ _ _ _ us hl => match us, hl with | [_], _ => rfl
  have G_lot_of : FnP l.prog w K mg base 1 "lot_of" 1 F_lot_of := ok_lot_of F_lot_of' b_lot_of (PySem.W.mg_of X G a_lot_of) T
  have F_greatest_items' := fun_mk (st := s_greatest_items) l_greatest_items c_greatest_items k_greatest_items
  have b_greatest_items := F_greatest_items'.binds (ps := ["lot", "many"]) fun _ _ _ _ _ _ us hl => match us, hl with | [_, _], _ => rfl
  have G_greatest_items : FnP l.prog w K mg base 2 "greatest_items" 2 F_greatest_items := ok_greatest_items F_greatest_items' b_greatest_items (PySem.W.mg_of X G a_greatest_items) T G_items_of G_lot_of
  have F_joined_codes' := fun_mk (st := s_joined_codes) l_joined_codes c_joined_codes k_joined_codes
  have b_joined_codes := F_joined_codes'.binds (ps := ["width", "many", "one", "two"]) fun _ _ _ _ _ _ us hl => match us, hl with | [_, _, _, _], _ => rfl
  have G_joined_codes : FnP l.prog w K mg base 13 "joined_codes" 4 F_joined_codes := ok_joined_codes F_joined_codes' b_joined_codes (PySem.W.mg_of X G a_joined_codes) T G_coded_state G_greatest_items G_state_code
  have F__law_triangle' := fun_mk (st := s__law_triangle) l__law_triangle c__law_triangle k__law_triangle
  have b__law_triangle := F__law_triangle'.binds (ps := []) fun _ _ _ _ _ _ us hl => match us, hl with | [], _ => rfl
  have G__law_triangle : FnP l.prog w K mg base 1 "_law_triangle" 0 F__law_triangle := ok__law_triangle F__law_triangle' b__law_triangle (PySem.W.mg_of X G a__law_triangle) T
  have F__law_drawn_state' := fun_mk (st := s__law_drawn_state) l__law_drawn_state c__law_drawn_state k__law_drawn_state
  have b__law_drawn_state := F__law_drawn_state'.binds (ps := ["cell", "width", "many"]) fun _ _ _ _ _ _ us hl => match us, hl with | [_, _, _], _ => rfl
  have G__law_drawn_state : FnP l.prog w K mg base 2 "_law_drawn_state" 3 F__law_drawn_state := ok__law_drawn_state F__law_drawn_state' b__law_drawn_state (PySem.W.mg_of X G a__law_drawn_state) T G__law_digits
  have F__law_whole' := fun_mk (st := s__law_whole) l__law_whole c__law_whole k__law_whole
  have b__law_whole := F__law_whole'.binds (ps := ["value"]) fun _ _ _ _ _ _ us hl => match us, hl with | [_], _ => rfl
  have G__law_whole : FnP l.prog w K mg base 1 "_law_whole" 1 F__law_whole := ok__law_whole F__law_whole' b__law_whole (PySem.W.mg_of X G a__law_whole) T
  have F__law_code' := fun_mk (st := s__law_code) l__law_code c__law_code k__law_code
  have b__law_code := F__law_code'.binds (ps := ["rows", "width", "lot"]) fun _ _ _ _ _ _ us hl => match us, hl with | [_, _, _], _ => rfl
  have G__law_code : FnP l.prog w K mg base 2 "_law_code" 3 F__law_code := ok__law_code F__law_code' b__law_code (PySem.W.mg_of X G a__law_code) T G__law_items
  have F__law_next' := fun_mk (st := s__law_next) l__law_next c__law_next k__law_next
  have b__law_next := F__law_next'.binds (ps := ["width", "lot"]) fun _ _ _ _ _ _ us hl => match us, hl with | [_, _], _ => rfl
  have G__law_next : FnP l.prog w K mg base 2 "_law_next" 2 F__law_next := ok__law_next F__law_next' b__law_next (PySem.W.mg_of X G a__law_next) T G__law_items
  have F_bits' := fun_mk (st := s_bits) l_bits c_bits k_bits
  have b_bits := F_bits'.binds (ps := ["count"]) fun _ _ _ _ _ _ us hl => match us, hl with | [_], _ => rfl
  have G_bits : FnP l.prog w K mg base 1 "bits" 1 F_bits := ok_bits F_bits' b_bits (PySem.W.mg_of X G a_bits) T
  have F__law_bits_right' := fun_mk (st := s__law_bits_right) l__law_bits_right c__law_bits_right k__law_bits_right
  have b__law_bits_right := F__law_bits_right'.binds (ps := ["number"]) fun _ _ _ _ _ _ us hl => match us, hl with | [_], _ => rfl
  have G__law_bits_right : FnP l.prog w K mg base 2 "_law_bits_right" 1 F__law_bits_right := ok__law_bits_right F__law_bits_right' b__law_bits_right (PySem.W.mg_of X G a__law_bits_right) T G_bits G__law_whole
  have F__law_refused' := fun_mk (st := s__law_refused) l__law_refused c__law_refused k__law_refused
  have b__law_refused := F__law_refused'.binds (ps := ["way", "width", "many", "value"]) fun _ _ _ _ _ _ us hl => match us, hl with | [_, _, _, _], _ => rfl
  have G__law_refused : FnP l.prog w K mg base 14 "_law_refused" 4 F__law_refused := ok__law_refused F__law_refused' b__law_refused (PySem.W.mg_of X G a__law_refused) T G_state_code G_coded_state G_joined_codes H__law_alike
  have F_law' := fun_mk (st := s_law) l_law c_law k_law
  exact law_end hF (ok_law F_law' T G__law_cell G__law_digits G__law_size_order G__law_count G_top_states G__law_alike G_coded_state G_state_code G__law_top G_joined_codes G__law_triangle G__law_drawn_state G__law_whole G__law_code G__law_next G__law_bits_right G__law_refused)
end
end K80
open PySem PySem.W PyProof.Rows
theorem PySem.Challenge.cw_bestbyeach_k80_codes_whole_holds : PySem.Challenge.rw_bestbyeach_k80_codes_whole.Holds := by
  w_on; o_law; k_head; (case hw => w_witness2)
  k_fill
  refine L2.walk_of (l := PySem.Challenge.rw_bestbyeach_k80_codes_whole) (n := 63) (k := 15) (x := "script") (CX := fun w => L2N.CX PySem.Challenge.rw_bestbyeach_k80_codes_whole.prog w) (sp := fun w => PL.spLaw _) rfl (by decide) rfl ⟨rfl, by decide, by decide⟩ (fun w h Y => PySem.W.kIn_of Y) ?F (fun _ _ a ns hl _ hS => ⟨a, ns, rfl, hS, hl, fun _ => rfl⟩) (fun w => PL.cx_end (P := PySem.Challenge.rw_bestbyeach_k80_codes_whole.prog) (w := w))
  case F =>
    intro w mg fa h KX G hmg
    refine' K80.all_mk KX G hmg K80.law_true ?a__law_cell ?l__law_cell ?c__law_cell ?k__law_cell ?a__law_digits ?l__law_digits ?c__law_digits ?k__law_digits ?a__law_items ?l__law_items ?c__law_items ?k__law_items ?a__law_count ?l__law_count ?c__law_count ?k__law_count ?a__law_size_order ?l__law_size_order ?c__law_size_order ?k__law_size_order ?a_choose ?l_choose ?c_choose ?k_choose ?a_top_states ?l_top_states ?c_top_states ?k_top_states ?a__law_alike ?l__law_alike ?c__law_alike ?k__law_alike ?a_is_whole ?l_is_whole ?c_is_whole ?k_is_whole ?a_frozen ?l_frozen ?c_frozen ?k_frozen ?a_check_code ?l_check_code ?c_check_code ?k_check_code ?a_greatest_within ?l_greatest_within ?c_greatest_within ?k_greatest_within ?a_coded_state ?l_coded_state ?c_coded_state ?k_coded_state ?a_full ?l_full ?c_full ?k_full ?a_is_lot ?l_is_lot ?c_is_lot ?k_is_lot ?a_items_of ?l_items_of ?c_items_of ?k_items_of ?a_size ?l_size ?c_size ?k_size ?a_state_code ?l_state_code ?c_state_code ?k_state_code ?a__law_top ?l__law_top ?c__law_top ?k__law_top ?a_lot_of ?l_lot_of ?c_lot_of ?k_lot_of ?a_greatest_items ?l_greatest_items ?c_greatest_items ?k_greatest_items ?a_joined_codes ?l_joined_codes ?c_joined_codes ?k_joined_codes ?a__law_triangle ?l__law_triangle ?c__law_triangle ?k__law_triangle ?a__law_drawn_state ?l__law_drawn_state ?c__law_drawn_state ?k__law_drawn_state ?a__law_whole ?l__law_whole ?c__law_whole ?k__law_whole ?a__law_code ?l__law_code ?c__law_code ?k__law_code ?a__law_next ?l__law_next ?c__law_next ?k__law_next ?a_bits ?l_bits ?c_bits ?k_bits ?a__law_bits_right ?l__law_bits_right ?c__law_bits_right ?k__law_bits_right ?a__law_refused ?l__law_refused ?c__law_refused ?k__law_refused ?a_law ?l_law ?c_law ?k_law ?ca_BoardError ?ca_NoSuchNumber ?ca_BadLot ?cl_NoSuchNumber ?cr_NoSuchNumber ?cs_NoSuchNumber ?ce_NoSuchNumber ?ct_NoSuchNumber ?ck_NoSuchNumber ?ci_NoSuchNumber ?cy_NoSuchNumber ?il_NoSuchNumber ?ic_NoSuchNumber ?ik_NoSuchNumber ?ga_NoSuchNumber ?gg_NoSuchNumber ?hd_NoSuchNumber ?cn_NoSuchNumber ?cm_NoSuchNumber ?sb_NoSuchNumber ?no_NoSuchNumber_lot ?no_NoSuchNumber_number ?ki_NoSuchNumber_BadLot ?ki_NoSuchNumber_NoSuchNumber ?cl_BadLot ?cr_BadLot ?cs_BadLot ?ce_BadLot ?ct_BadLot ?ck_BadLot ?ci_BadLot ?cy_BadLot ?il_BadLot ?ic_BadLot ?ik_BadLot ?ga_BadLot ?gg_BadLot ?hd_BadLot ?cn_BadLot ?cm_BadLot ?sb_BadLot ?no_BadLot_lot ?no_BadLot_number ?ki_BadLot_BadLot ?ki_BadLot_NoSuchNumber ?ce_BoardError ?ct_BoardError ?hd_BoardError ?gs ?gt ?z_all ?z_bool ?z_int ?z_isinstance ?z_len ?z_list ?z_max ?z_range ?z_str ?z_sum ?z_tuple
    (case a__law_cell => k_is); (case l__law_cell => k_is); (case c__law_cell => k_is); (case k__law_cell => k_is); (case a__law_digits => k_is); (case l__law_digits => k_is); (case c__law_digits => k_is); (case k__law_digits => k_is); (case a__law_items => k_is); (case l__law_items => k_is); (case c__law_items => k_is); (case k__law_items => k_is); (case a__law_count => k_is); (case l__law_count => k_is); (case c__law_count => k_is); (case k__law_count => k_is); (case a__law_size_order => k_is); (case l__law_size_order => k_is); (case c__law_size_order => k_is); (case k__law_size_order => k_is); (case a_choose => k_is); (case l_choose => k_is); (case c_choose => k_is); (case k_choose => k_is); (case a_top_states => k_is); (case l_top_states => k_is); (case c_top_states => k_is); (case k_top_states => k_is); (case a__law_alike => k_is); (case l__law_alike => k_is); (case c__law_alike => k_is); (case k__law_alike => k_is); (case a_is_whole => k_is); (case l_is_whole => k_is); (case c_is_whole => k_is); (case k_is_whole => k_is); (case a_frozen => k_is); (case l_frozen => k_is); (case c_frozen => k_is); (case k_frozen => k_is); (case a_check_code => k_is); (case l_check_code => k_is); (case c_check_code => k_is); (case k_check_code => k_is); (case a_greatest_within => k_is); (case l_greatest_within => k_is); (case c_greatest_within => k_is); (case k_greatest_within => k_is); (case a_coded_state => k_is); (case l_coded_state => k_is); (case c_coded_state => k_is); (case k_coded_state => k_is); (case a_full => k_is); (case l_full => k_is); (case c_full => k_is); (case k_full => k_is); (case a_is_lot => k_is); (case l_is_lot => k_is); (case c_is_lot => k_is); (case k_is_lot => k_is); (case a_items_of => k_is); (case l_items_of => k_is); (case c_items_of => k_is); (case k_items_of => k_is); (case a_size => k_is); (case l_size => k_is); (case c_size => k_is); (case k_size => k_is); (case a_state_code => k_is); (case l_state_code => k_is); (case c_state_code => k_is); (case k_state_code => k_is); (case a__law_top => k_is); (case l__law_top => k_is); (case c__law_top => k_is); (case k__law_top => k_is); (case a_lot_of => k_is); (case l_lot_of => k_is); (case c_lot_of => k_is); (case k_lot_of => k_is); (case a_greatest_items => k_is); (case l_greatest_items => k_is); (case c_greatest_items => k_is); (case k_greatest_items => k_is); (case a_joined_codes => k_is); (case l_joined_codes => k_is); (case c_joined_codes => k_is); (case k_joined_codes => k_is); (case a__law_triangle => k_is); (case l__law_triangle => k_is); (case c__law_triangle => k_is); (case k__law_triangle => k_is); (case a__law_drawn_state => k_is); (case l__law_drawn_state => k_is); (case c__law_drawn_state => k_is); (case k__law_drawn_state => k_is); (case a__law_whole => k_is); (case l__law_whole => k_is); (case c__law_whole => k_is); (case k__law_whole => k_is); (case a__law_code => k_is); (case l__law_code => k_is); (case c__law_code => k_is); (case k__law_code => k_is); (case a__law_next => k_is); (case l__law_next => k_is); (case c__law_next => k_is); (case k__law_next => k_is); (case a_bits => k_is); (case l_bits => k_is); (case c_bits => k_is); (case k_bits => k_is); (case a__law_bits_right => k_is); (case l__law_bits_right => k_is); (case c__law_bits_right => k_is); (case k__law_bits_right => k_is); (case a__law_refused => k_is); (case l__law_refused => k_is); (case c__law_refused => k_is); (case k__law_refused => k_is); (case a_law => k_is); (case l_law => k_is); (case c_law => k_is); (case k_law => k_is); (case ca_BoardError => k_is); (case ca_NoSuchNumber => k_is); (case ca_BadLot => k_is); (case cl_NoSuchNumber => k_is); (case cr_NoSuchNumber => decide +kernel); (case cs_NoSuchNumber => k_is); (case ce_NoSuchNumber => k_is); (case ct_NoSuchNumber => k_is); (case ck_NoSuchNumber => k_is); (case ci_NoSuchNumber => k_is); (case cy_NoSuchNumber => k_is); (case il_NoSuchNumber => k_is); (case ic_NoSuchNumber => k_is); (case ik_NoSuchNumber => k_is); (case ga_NoSuchNumber => k_is); (case gg_NoSuchNumber => k_is); (case hd_NoSuchNumber => k_is); (case cn_NoSuchNumber => k_is); (case cm_NoSuchNumber => k_is); (case sb_NoSuchNumber => k_is); (case no_NoSuchNumber_lot => k_is); (case no_NoSuchNumber_number => k_is); (case ki_NoSuchNumber_BadLot => k_is); (case ki_NoSuchNumber_NoSuchNumber => k_is); (case cl_BadLot => k_is); (case cr_BadLot => decide +kernel); (case cs_BadLot => k_is); (case ce_BadLot => k_is); (case ct_BadLot => k_is); (case ck_BadLot => k_is); (case ci_BadLot => k_is); (case cy_BadLot => k_is); (case il_BadLot => k_is); (case ic_BadLot => k_is); (case ik_BadLot => k_is); (case ga_BadLot => k_is); (case gg_BadLot => k_is); (case hd_BadLot => k_is); (case cn_BadLot => k_is); (case cm_BadLot => k_is); (case sb_BadLot => k_is); (case no_BadLot_lot => k_is); (case no_BadLot_number => k_is); (case ki_BadLot_BadLot => k_is); (case ki_BadLot_NoSuchNumber => k_is); (case ce_BoardError => k_is); (case ct_BoardError => k_is); (case hd_BoardError => k_is); (case gs => k_is); (case gt => k_is); (case z_all => k_is); (case z_bool => k_is); (case z_int => k_is); (case z_isinstance => k_is); (case z_len => k_is); (case z_list => k_is); (case z_max => k_is); (case z_range => k_is); (case z_str => k_is); (case z_sum => k_is); (case z_tuple => k_is)
#print axioms PySem.Challenge.cw_bestbyeach_k80_codes_whole_holds
