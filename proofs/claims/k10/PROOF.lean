import PyProof.Rows.All
import HandS.ForMost
import HandS.Deep
import HandS.TupAny
import HandS.TupMul
import HandS.Conv
import HandS.IsInst
import HandS.Zip
import HandS.Flow
import KE.GoesMore
import HandS.Style
import HandS.Codes
import HandS.Star
import HandS.RaiseMore
import HandS.Strs
import PyProof.ReprRoads
import HandS.Dict
import PyProof.ReprLen
import PyProof.Rows.SetFrom
import PySem.Challenge.RW_oneunheard_k10_views_beside_own_ones
set_option Elab.async false
set_option linter.all false
set_option maxRecDepth 100000
set_option maxHeartbeats 4000000
/-! DL: a data layer over the hand layer: a frozen world R of data within the heap H, a deck that changes, lists of a def's own. -/
namespace DL
open PySem PySem.Spec PyProof.Rows L2

/-! ### data in a growing world -/
mutual
/-- the value v is the data d: a list is tracked, or known to its object; a tuple may be the module's; a dict of ints and texts -/
inductive Dq (K : PySem.W.Frag) (H : Hp) : V → PyData → Prop
  | non : Dq K H .non .none
  | bl (b : Bool) : Dq K H (.bl b) (.bool b)
  | int (i : Int) : Dq K H (.int i) (.int i)
  | str (x : Str) : Dq K H (.str x) (.str x)
  | lst {a : Addr} {xs : List V} {ds : List PyData} : Rd H a (.lst xs) → DqAll K H xs ds → Dq K H (.ref a) (.list ds)
  | tup {a : Addr} {xs : List V} {ds : List PyData} : SqT K H a xs → DqAll K H xs ds → Dq K H (.ref a) (.tuple ds)
  | dct {a : Addr} {kvs : List (Key × V)} {ks vs : List PyData} : Rd H a (.dK kvs) → DqAll K H (kvs.map fun p => kV p.1) ks → DqAll K H (kvs.map fun p => p.2) vs → Dq K H (.ref a) (.dict (ks.zip vs))
inductive DqAll (K : PySem.W.Frag) (H : Hp) : List V → List PyData → Prop
  | nil : DqAll K H [] []
  | cons {v : V} {vs : List V} {d : PyData} {ds : List PyData} : Dq K H v d → DqAll K H vs ds → DqAll K H (v :: vs) (d :: ds)
end
theorem rd_up {H H' : Hp} {a : Addr} {u : HO} (e : Same H H') (h : Rd H a u) : Rd H' a u := by
  rcases h with h | ⟨o, h⟩
  · exact .inl (e _ _ h)
  · exact .inr ⟨o, e _ _ h⟩
mutual
theorem dp_up {K : PySem.W.Frag} {H H' : Hp} (e : Same H H') : ∀ {v : V} {d : PyData}, Dq K H v d → Dq K H' v d
  | _, _, .non => .non
  | _, _, .bl b => .bl b
  | _, _, .int i => .int i
  | _, _, .str x => .str x
  | _, _, .lst h a => .lst (rd_up e h) (dps_up e a)
  | _, _, .dct h a b => .dct (rd_up e h) (dps_up e a) (dps_up e b)
  | _, _, .tup h a => .tup (by
      rcases h with (h | ⟨o, h⟩) | h
      · exact .inl (.inl (e _ _ h))
      · exact .inl (.inr ⟨o, e _ _ h⟩)
      · exact .inr h) (dps_up e a)
theorem dps_up {K : PySem.W.Frag} {H H' : Hp} (e : Same H H') : ∀ {vs : List V} {ds : List PyData}, DqAll K H vs ds → DqAll K H' vs ds
  | _, _, .nil => .nil
  | _, _, .cons a b => .cons (dp_up e a) (dps_up e b)
end
theorem sqT_up {K : PySem.W.Frag} {H H' : Hp} {a : Addr} {xs : List V} (e : Same H H') (h : SqT K H a xs) : SqT K H' a xs := by
  rcases h with (h | ⟨o, h⟩) | h
  · exact .inl (.inl (e _ _ h))
  · exact .inl (.inr ⟨o, e _ _ h⟩)
  · exact .inr h
theorem dps_len {K : PySem.W.Frag} {H : Hp} : ∀ {vs : List V} {ds : List PyData}, DqAll K H vs ds → vs.length = ds.length
  | _, _, .nil => rfl
  | _, _, .cons _ b => by rw [List.length_cons, List.length_cons, dps_len b]
theorem dps_get {K : PySem.W.Frag} {H : Hp} : ∀ {vs : List V} {ds : List PyData} {i : Nat} {d : PyData}, DqAll K H vs ds → ds[i]? = some d → ∃ v, vs[i]? = some v ∧ Dq K H v d
  | _, _, _, _, .nil, h => by simp at h
  | _, _, 0, _, .cons a _, h => by
    simp at h
    subst h
    exact ⟨_, rfl, a⟩
  | _, _, i + 1, _, .cons _ b, h => by
    obtain ⟨v, h1, h2⟩ := dps_get (i := i) b (by simpa using h)
    exact ⟨v, by simpa using h1, h2⟩
theorem dps_app {K : PySem.W.Frag} {H : Hp} : ∀ {vs ws : List V} {ds es : List PyData}, DqAll K H vs ds → DqAll K H ws es → DqAll K H (vs ++ ws) (ds ++ es)
  | _, _, _, _, .nil, h => h
  | _, _, _, _, .cons a b, h => .cons a (dps_app b h)
theorem dps_take {K : PySem.W.Frag} {H : Hp} : ∀ (n : Nat) {vs : List V} {ds : List PyData}, DqAll K H vs ds → DqAll K H (vs.take n) (ds.take n)
  | 0, _, _, _ => .nil
  | _ + 1, _, _, .nil => .nil
  | n + 1, _, _, .cons a b => .cons a (dps_take n b)
theorem dps_drop {K : PySem.W.Frag} {H : Hp} : ∀ (n : Nat) {vs : List V} {ds : List PyData}, DqAll K H vs ds → DqAll K H (vs.drop n) (ds.drop n)
  | 0, _, _, h => h
  | _ + 1, _, _, .nil => .nil
  | n + 1, _, _, .cons _ b => dps_drop n b
theorem dps_rev {K : PySem.W.Frag} {H : Hp} : ∀ {vs : List V} {ds : List PyData}, DqAll K H vs ds → DqAll K H vs.reverse ds.reverse
  | _, _, .nil => .nil
  | _, _, .cons a b => by
    rw [List.reverse_cons, List.reverse_cons]
    exact dps_app (dps_rev b) (.cons a .nil)
theorem dps_one {K : PySem.W.Frag} {H : Hp} {v : V} {d : PyData} (h : Dq K H v d) : DqAll K H [v] [d] := .cons h .nil

/-! ### the state -/
/-- M: what may change beside a def's own lists; dk: the deck; D n: it is whole, at most n draws were made -/
structure Ctx where
  M : List Addr
  dk : Addr
  D : Nat → Hp → Prop
  fr : ∀ (n : Nat) (H H' : Hp), (∀ m, m ∈ M → H' m = H m) → D n H → D n H'
  mo : ∀ (n n' : Nat) (H : Hp), n ≤ n' → D n H → D n' H
/-- no deck -/
def C0 : Ctx := ⟨[], 0, fun _ _ => False, fun _ _ _ _ h => h, fun _ _ _ _ h => h⟩
inductive Ent where
  | unk | dat (d : PyData) | own (ds : List PyData) | dck (n : Nat) | scr (ns : List Int)
structure Wd (C : Ctx) (R H : Hp) : Prop where
  sub : Same R H
  out : ∀ m, m ∈ C.M → R m = none
  th : ∀ m, m ∈ C.M → H m ≠ none
/-- a step: the deck may have changed -/
structure StU (C : Ctx) (R H R' H' : Hp) : Prop where
  r : Same R R'
  w : Wd C R' H'
  k : ∀ a o, a ∉ C.M → H a = some o → H' a = some o
  n : ∀ a, R' a ≠ none → R a ≠ none ∨ H a = none
/-- .. by at most κ draws -/
structure StK (C : Ctx) (κ : Nat) (R H R' H' : Hp) : Prop extends StU C R H R' H' where
  d : ∀ n, C.D n H → C.D (n + κ) H'
/-- .. by none -/
abbrev Stp (C : Ctx) : Hp → Hp → Hp → Hp → Prop := StK C 0
def bmp (κ : Nat) (Γ : List Ent) : List Ent := Γ.map fun
    | .dck n => .dck (n + κ)
    | r => r
theorem bmp_len (κ : Nat) (Γ : List Ent) : (bmp κ Γ).length = Γ.length := List.length_map ..
theorem bmp_zero (Γ : List Ent) : bmp 0 Γ = Γ := by
  have : ∀ r, (fun | Ent.dck n => Ent.dck (n + 0) | r => r : Ent → Ent) r = id r := fun r => by cases r <;> rfl
  exact (List.map_congr_left fun r _ => this r).trans (List.map_id Γ)
theorem bmp_add (a b : Nat) (Γ : List Ent) : bmp b (bmp a Γ) = bmp (a + b) Γ := by
  show (Γ.map _).map _ = Γ.map _
  rw [List.map_map]
  refine List.map_congr_left fun r _ => ?_
  cases r <;> first | rfl | exact congrArg Ent.dck (Nat.add_assoc _ _ _)
section
variable {K : PySem.W.Frag} {C : Ctx} {R R' R₂ H H' H₂ H0 : Hp} {κ κ' : Nat}
theorem StU.refl (w : Wd C R H) : StU C R H R H := ⟨Same.refl R, w, fun _ _ _ h => h, fun _ h => .inl h⟩
theorem StK.refl (w : Wd C R H) : StK C 0 R H R H := ⟨StU.refl w, fun _ h => h⟩
theorem Stp.refl (w : Wd C R H) : Stp C R H R H := StK.refl w
/-- what stood is there still -/
theorem StU.still (s : StU C R H R' H') {a : Addr} (h : H' a = none) : H a = none := by
  by_cases hm : a ∈ C.M
  · exact absurd h (s.w.th a hm)
  · cases e : H a with
    | none => rfl
    | some o =>
      rw [s.k a o hm e] at h
      cases h
theorem StK.still (s : StK C κ R H R' H') {a : Addr} (h : H' a = none) : H a = none := s.toStU.still h
theorem Stp.still (s : Stp C R H R' H') {a : Addr} (h : H' a = none) : H a = none := s.toStU.still h
theorem StU.trans (s : StU C R H R' H') (t : StU C R' H' R₂ H₂) : StU C R H R₂ H₂ :=
  ⟨s.r.trans t.r, t.w, fun a o hm h => t.k a o hm (s.k a o hm h), fun a h => by
    rcases t.n a h with z | z
    · exact s.n a z
    · exact .inr (s.still z)⟩
theorem StK.trans (s : StK C κ R H R' H') (t : StK C κ' R' H' R₂ H₂) : StK C (κ + κ') R H R₂ H₂ :=
  ⟨s.toStU.trans t.toStU, fun n h => by
    rw [← Nat.add_assoc]
    exact t.d _ (s.d n h)⟩
theorem Stp.trans (s : Stp C R H R' H') (t : Stp C R' H' R₂ H₂) : Stp C R H R₂ H₂ := StK.trans s t
theorem StK.le (s : StK C κ R H R' H') (h : κ ≤ κ') : StK C κ' R H R' H' := ⟨s.toStU, fun n q => C.mo _ _ _ (Nat.add_le_add_left h n) (s.d n q)⟩
/-- a step that leaves the deck as it is -/
theorem StU.same (s : StU C R H R' H') (w : Wd C R H) (e : ∀ m, m ∈ C.M → H' m = H m) : Stp C R H R' H' := ⟨s, fun n h => C.fr n H H' e h⟩
/-- a new object, frozen at once -/
theorem Stp.new (w : Wd C R H) {p : Addr} {o : HO} (hp : H p = none) : Stp C R H (upd R p o) (upd H p o) := by
  have rp : R p = none := w.sub.free hp
  have nm : ∀ m, m ∈ C.M → m ≠ p := fun m hm e => w.th m hm (by rw [e]; exact hp)
  refine StU.same ⟨fun a u h => by rw [upd_ne (ne_of_none h rp)]; exact h, ⟨fun a u h => ?_, fun m hm => ?_, fun m hm => by rw [upd_ne (nm m hm)]; exact w.th m hm⟩, fun a u _ h => by rw [upd_ne (ne_of_none h hp)]; exact h, fun a h => ?_⟩ w fun m hm => upd_ne (nm m hm)
  · by_cases e : a = p
    · subst e
      rw [upd_same] at h ⊢
      exact h
    · rw [upd_ne e] at h ⊢
      exact w.sub a u h
  · rw [upd_ne (nm m hm)]
    exact w.out m hm
  · by_cases e : a = p
    · subst e
      exact .inr hp
    · rw [upd_ne e] at h
      exact .inl h
/-- a new object, left out of the frozen world -/
theorem Stp.out (w : Wd C R H) {p : Addr} {o : HO} (hp : H p = none) : Stp C R H R (upd H p o) := by
  have nm : ∀ m, m ∈ C.M → m ≠ p := fun m hm e => w.th m hm (by rw [e]; exact hp)
  refine StU.same ⟨Same.refl R, ⟨fun a u h => ?_, w.out, fun m hm => by rw [upd_ne (nm m hm)]; exact w.th m hm⟩, fun a u _ h => by rw [upd_ne (ne_of_none h hp)]; exact h, fun a h => .inl h⟩ w fun m hm => upd_ne (nm m hm)
  rw [upd_ne (ne_of_none (w.sub a u h) hp)]
  exact w.sub a u h
/-- an object of nobody's is changed -/
theorem Wd.mut (w : Wd C R H) {p : Addr} {o : HO} (hr : R p = none) : Wd C R (upd H p o) :=
  ⟨fun a u h => by rw [upd_ne (ne_of_none h hr)]; exact w.sub a u h, w.out, fun m hmm => by
    by_cases e : m = p
    · subst e
      rw [upd_same]
      exact fun z => nomatch z
    · rw [upd_ne e]
      exact w.th m hmm⟩
/-- an object of nobody's is frozen -/
theorem Wd.freeze (w : Wd C R H) {p : Addr} {o : HO} (hm : p ∉ C.M) (h : H p = some o) : Wd C (upd R p o) H :=
  ⟨fun a u e => by
    by_cases q : a = p
    · subst q
      rw [upd_same] at e
      rw [h]
      exact e
    · rw [upd_ne q] at e
      exact w.sub a u e, fun m hmm => by
    rw [upd_ne (fun e : m = p => hm (by rw [← e]; exact hmm))]
    exact w.out m hmm, w.th⟩
theorem same_upd {R : Hp} {p : Addr} {o : HO} (h : R p = none) : Same R (upd R p o) := fun a u e => by
  rw [upd_ne (ne_of_none e h)]
  exact e
theorem Wd.nm (w : Wd C R H) {p : Addr} (h : H p = none) : p ∉ C.M := fun z => w.th p z h

/-- what a value is: H0, the heap at the beginning -/
def ROk (K : PySem.W.Frag) (C : Ctx) (H0 R H : Hp) (v : V) : Ent → Prop
  | .unk => True
  | .dat d => Dq K R v d
  | .own ds => ∃ p xs, v = .ref p ∧ H p = some (.lst xs) ∧ DqAll K R xs ds ∧ R p = none ∧ H0 p = none ∧ p ∉ C.M
  | .dck n => v = .ref C.dk ∧ C.D n H
  | .scr ns => ∃ a, v = .ref a ∧ SqL K R a (ns.map V.int)
structure SD (K : PySem.W.Frag) (C : Ctx) (H0 R H : Hp) (σ : L2.St) (Γ : List Ent) : Prop where
  len : σ.length = Γ.length
  is : ∀ (i : Nat) (r : Ent), Γ[i]? = some r → r ≠ .unk → ∃ v, σ[i]? = some (some v) ∧ ROk K C H0 R H v r
  sep : ∀ (i j : Nat) (p : Addr) (ds es : List PyData), i ≠ j → Γ[i]? = some (.own ds) → Γ[j]? = some (.own es) → σ[i]? = some (some (.ref p)) → σ[j]? ≠ some (some (.ref p))
  old : ∀ a, H a = none → H0 a = none
theorem ROk.stp {v : V} {r : Ent} (s : StU C R H R' H') (hd : ∀ n, r = .dck n → C.D n H → C.D n H') (h : ROk K C H0 R H v r) : ROk K C H0 R' H' v r := by
  cases r with
  | unk => trivial
  | dat d => exact dp_up s.r h
  | own ds =>
    obtain ⟨p, xs, rfl, h1, h2, h3, h4, h5⟩ := h
    refine ⟨p, xs, rfl, s.k p _ h5 h1, dps_up s.r h2, ?_, h4, h5⟩
    cases e : R' p with
    | none => rfl
    | some o =>
      rcases s.n p (by rw [e]; exact fun z => nomatch z) with z | z
      · exact absurd h3 z
      · rw [h1] at z
        cases z
  | dck n => exact ⟨h.1, hd n rfl h.2⟩
  | scr ns => exact let ⟨a, e, q⟩ := h; ⟨a, e, s.r.seq q⟩
theorem SD.stp {σ : L2.St} {Γ : List Ent} (d : SD K C H0 R H σ Γ) (s : Stp C R H R' H') : SD K C H0 R' H' σ Γ :=
  ⟨d.len, fun i r h nu => let ⟨v, h1, h2⟩ := d.is i r h nu; ⟨v, h1, h2.stp s.toStU fun n _ q => s.d n q⟩, d.sep, fun a h => d.old a (s.still h)⟩
theorem bmp_at {Γ : List Ent} {i : Nat} {r : Ent} (h : (bmp κ Γ)[i]? = some r) : (∃ n, Γ[i]? = some (.dck n) ∧ r = .dck (n + κ)) ∨ (Γ[i]? = some r ∧ ∀ n, r ≠ .dck n) := by
  have h' : (Γ.map _)[i]? = some r := h
  rw [List.getElem?_map] at h'
  obtain ⟨q, h1, h2⟩ := Option.map_eq_some_iff.mp h'
  cases q with
  | dck n => exact .inl ⟨n, h1, h2.symm⟩
  | unk => exact .inr ⟨by rw [h1]; exact congrArg some h2, fun n e => by rw [← h2] at e; cases e⟩
  | dat d => exact .inr ⟨by rw [h1]; exact congrArg some h2, fun n e => by rw [← h2] at e; cases e⟩
  | own ds => exact .inr ⟨by rw [h1]; exact congrArg some h2, fun n e => by rw [← h2] at e; cases e⟩
  | scr ns => exact .inr ⟨by rw [h1]; exact congrArg some h2, fun n e => by rw [← h2] at e; cases e⟩
theorem bmp_to {Γ : List Ent} {i : Nat} {r : Ent} (h : Γ[i]? = some r) (hn : ∀ n, r ≠ .dck n) : (bmp κ Γ)[i]? = some r := by
  show (Γ.map _)[i]? = _
  rw [List.getElem?_map, h]
  cases r with
  | dck n => exact absurd rfl (hn n)
  | _ => rfl
/-- .. at most κ draws later -/
theorem SD.stpK {σ : L2.St} {Γ : List Ent} (d : SD K C H0 R H σ Γ) (s : StK C κ R H R' H') : SD K C H0 R' H' σ (bmp κ Γ) :=
  ⟨by rw [bmp_len]; exact d.len, fun i r h nu => by
    rcases bmp_at h with ⟨n, h1, rfl⟩ | ⟨h1, h2⟩
    · obtain ⟨v, g1, g2⟩ := d.is i _ h1 (fun z => nomatch z)
      exact ⟨v, g1, g2.1, s.d n g2.2⟩
    · obtain ⟨v, g1, g2⟩ := d.is i r h1 nu
      exact ⟨v, g1, g2.stp s.toStU fun n e _ => absurd e (h2 n)⟩, fun i j p ds es ne h1 h2 => by
    rcases bmp_at h1 with ⟨n, _, z⟩ | ⟨h1, _⟩
    · cases z
    · rcases bmp_at h2 with ⟨n, _, z⟩ | ⟨h2, _⟩
      · cases z
      · exact d.sep i j p ds es ne h1 h2, fun a h => d.old a (s.still h)⟩
theorem SD.get {σ : L2.St} {Γ : List Ent} (d : SD K C H0 R H σ Γ) {i : Nat} {r : Ent} (h : Γ[i]? = some r) (nu : r ≠ .unk) : ∃ v, σ[i]? = some (some v) ∧ ROk K C H0 R H v r := d.is i r h nu
theorem set_get {α : Type} {l : List α} {i j : Nat} {x y : α} (h : (l.set i x)[j]? = some y) : (i = j ∧ y = x ∧ i < l.length) ∨ (i ≠ j ∧ l[j]? = some y) := by
  by_cases e : i = j
  · subst e
    have hl : i < l.length := by
      have := (List.getElem?_eq_some_iff.mp h).1
      rwa [List.length_set] at this
    rw [List.getElem?_set_self hl] at h
    exact .inl ⟨rfl, (Option.some.inj h).symm, hl⟩
  · rw [List.getElem?_set_ne e] at h
    exact .inr ⟨e, h⟩
/-- a name is stored: data -/
theorem SD.setD {σ : L2.St} {Γ : List Ent} (d : SD K C H0 R H σ Γ) {i : Nat} {v : V} {x : PyData} (h : Dq K R v x) : SD K C H0 R H (σ.set i (some v)) (Γ.set i (.dat x)) := by
  refine ⟨by rw [List.length_set, List.length_set]; exact d.len, fun j r hj nu => ?_, fun a b p ds es ne ha hb hs => ?_, d.old⟩
  · rcases set_get hj with ⟨rfl, rfl, hl⟩ | ⟨ne, hj⟩
    · exact ⟨v, List.getElem?_set_self (by rw [d.len]; exact hl), h⟩
    · obtain ⟨u, h1, h2⟩ := d.is j r hj nu
      exact ⟨u, by rw [List.getElem?_set_ne ne]; exact h1, h2⟩
  · rcases set_get ha with ⟨_, e, _⟩ | ⟨na, ha⟩
    · cases e
    · rcases set_get hb with ⟨_, e, _⟩ | ⟨nb, hb⟩
      · cases e
      · rw [List.getElem?_set_ne na] at hs
        rw [List.getElem?_set_ne nb]
        exact d.sep a b p ds es ne ha hb hs
/-- a name is stored: of no known kind -/
theorem SD.setU {σ : L2.St} {Γ : List Ent} (d : SD K C H0 R H σ Γ) {i : Nat} {v : Option V} : SD K C H0 R H (σ.set i v) (Γ.set i .unk) := by
  refine ⟨by rw [List.length_set, List.length_set]; exact d.len, fun j r hj nu => ?_, fun a b p ds es ne ha hb hs => ?_, d.old⟩
  · rcases set_get hj with ⟨rfl, rfl, hl⟩ | ⟨ne, hj⟩
    · exact absurd rfl nu
    · obtain ⟨u, h1, h2⟩ := d.is j r hj nu
      exact ⟨u, by rw [List.getElem?_set_ne ne]; exact h1, h2⟩
  · rcases set_get ha with ⟨_, e, _⟩ | ⟨na, ha⟩
    · cases e
    · rcases set_get hb with ⟨_, e, _⟩ | ⟨nb, hb⟩
      · cases e
      · rw [List.getElem?_set_ne na] at hs
        rw [List.getElem?_set_ne nb]
        exact d.sep a b p ds es ne ha hb hs
/-- .. a new list -/
theorem SD.setO {σ : L2.St} {Γ : List Ent} (d : SD K C H0 R H σ Γ) {i : Nat} {p : Addr} {xs : List V} {ds : List PyData} {H₁ : Hp} (h1 : H p = some (.lst xs)) (h2 : DqAll K R xs ds) (h3 : R p = none) (h4 : H0 p = none) (h5 : p ∉ C.M)
    (hn : ∀ j es, Γ[j]? = some (.own es) → j ≠ i → σ[j]? ≠ some (some (.ref p))) : SD K C H0 R H (σ.set i (some (.ref p))) (Γ.set i (.own ds)) := by
  refine ⟨by rw [List.length_set, List.length_set]; exact d.len, fun j r hj nu => ?_, fun a b q es fs ne ha hb hs => ?_, d.old⟩
  · rcases set_get hj with ⟨rfl, rfl, hl⟩ | ⟨ne, hj⟩
    · exact ⟨.ref p, List.getElem?_set_self (by rw [d.len]; exact hl), p, xs, rfl, h1, h2, h3, h4, h5⟩
    · obtain ⟨u, g1, g2⟩ := d.is j r hj nu
      exact ⟨u, by rw [List.getElem?_set_ne ne]; exact g1, g2⟩
  · rcases set_get ha with ⟨rfl, e, hl⟩ | ⟨na, ha⟩
    · rcases set_get hb with ⟨z, _, _⟩ | ⟨nb, hb⟩
      · exact absurd z ne
      · rw [List.getElem?_set_self (by rw [d.len]; exact hl)] at hs
        cases hs
        rw [List.getElem?_set_ne nb]
        exact hn b fs hb (Ne.symm nb)
    · rcases set_get hb with ⟨rfl, e, hl⟩ | ⟨nb, hb⟩
      · rw [List.getElem?_set_ne na] at hs
        rw [List.getElem?_set_self (by rw [d.len]; exact hl)]
        intro z
        cases z
        exact hn a es ha (Ne.symm na) hs
      · rw [List.getElem?_set_ne na] at hs
        rw [List.getElem?_set_ne nb]
        exact d.sep a b q es fs ne ha hb hs
/-- the list of a name is changed -/
theorem SD.mut {σ : L2.St} {Γ : List Ent} (d : SD K C H0 R H σ Γ) {i : Nat} {p : Addr} {xs : List V} {ds es : List PyData} (hi : Γ[i]? = some (.own ds)) (hs : σ[i]? = some (some (.ref p))) (h2 : DqAll K R xs es) :
    SD K C H0 R (upd H p (.lst xs)) σ (Γ.set i (.own es)) := by
  obtain ⟨v, g1, q, ys, g2, g3, g4, g5, g6, g7⟩ := d.is i _ hi (fun z => nomatch z)
  rw [hs] at g1
  cases g1
  cases g2
  refine ⟨by rw [List.length_set]; exact d.len, fun j r hj nu => ?_, fun a b q es' fs ne ha hb hs' => ?_, fun a h => ?_⟩
  · rcases set_get hj with ⟨rfl, rfl, hl⟩ | ⟨ne, hj⟩
    · exact ⟨.ref p, hs, p, xs, rfl, upd_same, h2, g5, g6, g7⟩
    · obtain ⟨u, k1, k2⟩ := d.is j r hj nu
      refine ⟨u, k1, ?_⟩
      cases r with
      | unk => trivial
      | dat x => exact k2
      | dck n => exact ⟨k2.1, C.fr n H _ (fun m hm => upd_ne fun e : m = p => g7 (by rw [← e]; exact hm)) k2.2⟩
      | scr ns => exact k2
      | own fs =>
        obtain ⟨q, zs, rfl, m1, m2, m3, m4, m5⟩ := k2
        refine ⟨q, zs, rfl, ?_, m2, m3, m4, m5⟩
        rw [upd_ne]
        · exact m1
        · rintro rfl
          exact d.sep i j q ds fs ne hi hj hs k1
  · have old : ∀ {c : Nat} {fs : List PyData}, (Γ.set i (.own es))[c]? = some (.own fs) → ∃ gs, Γ[c]? = some (.own gs) := fun {c fs} h => by
      rcases set_get h with ⟨rfl, _, _⟩ | ⟨_, h⟩
      · exact ⟨_, hi⟩
      · exact ⟨_, h⟩
    obtain ⟨x1, e1⟩ := old ha
    obtain ⟨x2, e2⟩ := old hb
    exact d.sep a b q x1 x2 ne e1 e2 hs'
  · by_cases e : a = p
    · subst e
      rw [upd_same] at h
      cases h
    · rw [upd_ne e] at h
      exact d.old a h
end

/-! ### judgements of readings -/
section
variable (K : PySem.W.Frag) (C : Ctx)
/-- an expression gives data, by at most κ draws -/
def XDk (κ : Nat) (te : TE) (Γ : List Ent) (P : PyData → Prop) : Prop := ∀ H0 R H σ, SD K C H0 R H σ Γ → Wd C R H → ∀ Q : VK, (∀ v d R' H', StK C κ R H R' H' → Dq K R' v d → P d → Q v H') → te σ H Q
abbrev XD (te : TE) (Γ : List Ent) (P : PyData → Prop) : Prop := XDk K C 0 te Γ P
/-- .. a new list -/
def XOk (κ : Nat) (te : TE) (Γ : List Ent) (P : List PyData → Prop) : Prop := ∀ H0 R H σ, SD K C H0 R H σ Γ → Wd C R H → ∀ Q : VK, (∀ p xs ds R' H', StK C κ R H R' H' → H p = none → H' p = some (.lst xs) → DqAll K R' xs ds → R' p = none → P ds → Q (.ref p) H') → te σ H Q
abbrev XO (te : TE) (Γ : List Ent) (P : List PyData → Prop) : Prop := XOk K C 0 te Γ P
def XTk (κ : Nat) (tt : TT) (Γ : List Ent) (P : Bool → Prop) : Prop := ∀ H0 R H σ, SD K C H0 R H σ Γ → Wd C R H → ∀ Q : Bool → Hp → Prop, (∀ b R' H', StK C κ R H R' H' → P b → Q b H') → tt σ H Q
abbrev XT (tt : TT) (Γ : List Ent) (P : Bool → Prop) : Prop := XTk K C 0 tt Γ P
/-- arguments: data, or the deck -/
def AOk (R : Hp) (v : V) : Ent → Prop
  | .dat d => Dq K R v d
  | .dck _ => v = .ref C.dk
  | .scr ns => ∃ a, v = .ref a ∧ SqL K R a (ns.map V.int)
  | _ => False
def XAk (κ : Nat) (ta : TA) (Γ : List Ent) (P : List Ent → Prop) : Prop := ∀ H0 R H σ, SD K C H0 R H σ Γ → Wd C R H → ∀ Q : List V → Hp → Prop, (∀ vs rs R' H', StK C κ R H R' H' → Paired (AOk K C R') vs rs → P rs → Q vs H') → ta σ H Q
abbrev XA (ta : TA) (Γ : List Ent) (P : List Ent → Prop) : Prop := XAk K C 0 ta Γ P
/-- what is walked -/
def Walks (J : It) (R : Hp) (ds : List PyData) : Prop := ∀ i R' H, Same R R' → Wd C R' H → (∀ d, ds[i]? = some d → J.go i H ∧ ∀ x H', J.yld i H x H' → ∃ R₂, Stp C R' H R₂ H' ∧ Dq K R₂ x d) ∧ (ds.length ≤ i → J.stop i H)
def XIk (κ : Nat) (wi : TI) (Γ : List Ent) (P : List PyData → Prop) : Prop := ∀ H0 R H σ, SD K C H0 R H σ Γ → Wd C R H → ∀ Q : It → Hp → Prop, (∀ J ds R' H', StK C κ R H R' H' → Walks K C J R' ds → P ds → Q J H') → wi σ H Q
abbrev XI (wi : TI) (Γ : List Ent) (P : List PyData → Prop) : Prop := XIk K C 0 wi Γ P
/-- a target takes data -/
def XG (g : TG) (js : List Nat) (d : PyData) (Γ Γ' : List Ent) : Prop := ∀ H0 R H σ v, SD K C H0 R H σ Γ → Wd C R H → Dq K R v d → ∀ Q : L2.St → Hp → Prop, (∀ σ', SD K C H0 R H σ' Γ' → (∀ vs, (∀ j, j ∈ js → j ∈ vs) → wipe σ' vs = wipe σ vs) → Q σ' H) → g v σ H Q
/-- the state within a def, seen from its entry -/
structure At (H0 R0 H R : Hp) (σ : L2.St) (Γ : List Ent) : Prop where
  s : StU C R0 H0 R H
  d : SD K C H0 R H σ Γ
def XS (ts : TS) (Γ : List Ent) (N : List Ent → Prop) (Rt : Ent → List Ent → Prop) (B Ct : List Ent → Prop) : Prop := ∀ H0 R0 H R σ (D : Ends), At K C H0 R0 H R σ Γ → (∀ σ' H' R' Γ', N Γ' → Same R R' → At K C H0 R0 H' R' σ' Γ' → D.nx σ' H') →
  (∀ v r H' R' σ' Γ', Rt r Γ' → At K C H0 R0 H' R' σ' Γ' → ROk K C H0 R' H' v r → D.rt v H') → (∀ σ' H' R' Γ', B Γ' → Same R R' → At K C H0 R0 H' R' σ' Γ' → D.bk σ' H') → (∀ σ' H' R' Γ', Ct Γ' → Same R R' → At K C H0 R0 H' R' σ' Γ' → D.ct σ' H') → ts D σ H
end
section
variable {K : PySem.W.Frag} {C : Ctx} {Γ Γ' : List Ent} {P P' : PyData → Prop} {ta tb te : TE}
theorem XDk.imp {κ : Nat} (h : XDk K C κ te Γ P) (i : ∀ d, P d → P' d) : XDk K C κ te Γ P' := fun H0 R H σ s w Q q => h H0 R H σ s w Q fun v d R' H' st dp p => q v d R' H' st dp (i d p)
theorem XD.imp (h : XD K C te Γ P) (i : ∀ d, P d → P' d) : XD K C te Γ P' := XDk.imp h i
theorem XDk.le {κ κ' : Nat} (h : XDk K C κ te Γ P) (l : κ ≤ κ') : XDk K C κ' te Γ P := fun H0 R H σ s w Q q => h H0 R H σ s w Q fun v d R' H' st dp p => q v d R' H' (st.le l) dp p
theorem XD.is {d e : PyData} (h : XD K C te Γ (· = d)) (i : d = e) : XD K C te Γ (· = e) := by
  subst i
  exact h
theorem XOk.imp {κ : Nat} {P P' : List PyData → Prop} (h : XOk K C κ te Γ P) (i : ∀ d, P d → P' d) : XOk K C κ te Γ P' := fun H0 R H σ s w Q q => h H0 R H σ s w Q fun p xs d R' H' st h1 h2 h3 h4 pp => q p xs d R' H' st h1 h2 h3 h4 (i d pp)
theorem XO.imp {P P' : List PyData → Prop} (h : XO K C te Γ P) (i : ∀ d, P d → P' d) : XO K C te Γ P' := XOk.imp h i
theorem XOk.le {κ κ' : Nat} {P : List PyData → Prop} (h : XOk K C κ te Γ P) (l : κ ≤ κ') : XOk K C κ' te Γ P := fun H0 R H σ s w Q q => h H0 R H σ s w Q fun p xs d R' H' st => q p xs d R' H' (st.le l)
theorem XTk.imp {κ : Nat} {tt : TT} {P P' : Bool → Prop} (h : XTk K C κ tt Γ P) (i : ∀ d, P d → P' d) : XTk K C κ tt Γ P' := fun H0 R H σ s w Q q => h H0 R H σ s w Q fun b R' H' st p => q b R' H' st (i b p)
theorem XT.imp {tt : TT} {P P' : Bool → Prop} (h : XT K C tt Γ P) (i : ∀ d, P d → P' d) : XT K C tt Γ P' := XTk.imp h i
theorem XTk.le {κ κ' : Nat} {tt : TT} {P : Bool → Prop} (h : XTk K C κ tt Γ P) (l : κ ≤ κ') : XTk K C κ' tt Γ P := fun H0 R H σ s w Q q => h H0 R H σ s w Q fun b R' H' st => q b R' H' (st.le l)
theorem XAk.imp {κ : Nat} {ta : TA} {P P' : List Ent → Prop} (h : XAk K C κ ta Γ P) (i : ∀ d, P d → P' d) : XAk K C κ ta Γ P' := fun H0 R H σ s w Q q => h H0 R H σ s w Q fun b r R' H' st a p => q b r R' H' st a (i r p)
theorem XA.imp {ta : TA} {P P' : List Ent → Prop} (h : XA K C ta Γ P) (i : ∀ d, P d → P' d) : XA K C ta Γ P' := XAk.imp h i
theorem XAk.le {κ κ' : Nat} {ta : TA} {P : List Ent → Prop} (h : XAk K C κ ta Γ P) (l : κ ≤ κ') : XAk K C κ' ta Γ P := fun H0 R H σ s w Q q => h H0 R H σ s w Q fun b r R' H' st => q b r R' H' (st.le l)
theorem XIk.imp {κ : Nat} {wi : TI} {P P' : List PyData → Prop} (h : XIk K C κ wi Γ P) (i : ∀ d, P d → P' d) : XIk K C κ wi Γ P' := fun H0 R H σ s w Q q => h H0 R H σ s w Q fun b r R' H' st a p => q b r R' H' st a (i r p)
theorem XI.imp {wi : TI} {P P' : List PyData → Prop} (h : XI K C wi Γ P) (i : ∀ d, P d → P' d) : XI K C wi Γ P' := XIk.imp h i
/-- a new list, frozen -/
theorem XOk.frz {κ : Nat} {P : List PyData → Prop} (h : XOk K C κ te Γ P) : XDk K C κ te Γ (fun d => ∃ ds, d = .list ds ∧ P ds) := fun H0 R H σ s w Q q => h H0 R H σ s w Q fun p xs ds R' H' st h1 h2 h3 h4 pp => by
  have nm : p ∉ C.M := w.nm h1
  refine q _ _ (upd R' p (.lst xs)) H' ⟨⟨st.r.trans (same_upd h4), st.w.freeze nm h2, st.k, fun a ha => ?_⟩, st.d⟩ (.lst (.inl upd_same) (dps_up (same_upd h4) h3)) ⟨ds, rfl, pp⟩
  by_cases e : a = p
  · subst e
    exact .inr h1
  · rw [upd_ne e] at ha
    exact st.n a ha
theorem XO.frz {P : List PyData → Prop} (h : XO K C te Γ P) : XD K C te Γ (fun d => ∃ ds, d = .list ds ∧ P ds) := XOk.frz h
theorem XO.frz1 {ds : List PyData} (h : XO K C te Γ (· = ds)) : XD K C te Γ (· = .list ds) := h.frz.imp fun d ⟨_, e, p⟩ => by rw [e, p]

/-! ### names, constants -/
theorem xd_var {i : Nat} {d : PyData} (h : Γ[i]? = some (.dat d)) : XD K C (tVar i) Γ (· = d) := fun H0 R H σ s w Q q => by
  obtain ⟨v, h1, h2⟩ := s.get h (fun z => nomatch z)
  exact ⟨v, h1, q v d R H (.refl w) h2 rfl⟩
theorem xd_int {i : Int} : XD K C (tC (.int i)) Γ (· = .int i) := fun _ R H _ _ w _ q => q _ _ R H (.refl w) (.int i) rfl
theorem xd_str {x : Str} : XD K C (tC (.str x)) Γ (· = .str x) := fun _ R H _ _ w _ q => q _ _ R H (.refl w) (.str x) rfl
theorem xd_bl {b : Bool} : XD K C (tC (.bl b)) Γ (· = .bool b) := fun _ R H _ _ w _ q => q _ _ R H (.refl w) (.bl b) rfl
theorem xd_non : XD K C (tC .non) Γ (· = .none) := fun _ R H _ _ w _ q => q _ _ R H (.refl w) .non rfl

/-! ### operators -/
/-- x op y gives P, by values -/
def Op2 (K : PySem.W.Frag) (C : Ctx) (r : R2) (x y : PyData) (P : PyData → Prop) : Prop := ∀ R H u v, Wd C R H → Dq K R u x → Dq K R v y → ∀ Q : VK, (∀ z d R' H', Stp C R H R' H' → Dq K R' z d → P d → Q z H') → r u v H Q
def Op1 (K : PySem.W.Frag) (C : Ctx) (r : V → Hp → VK → Prop) (x : PyData) (P : PyData → Prop) : Prop := ∀ R H u, Wd C R H → Dq K R u x → ∀ Q : VK, (∀ z d R' H', Stp C R H R' H' → Dq K R' z d → P d → Q z H') → r u H Q
theorem xdk_op {κ κ' : Nat} {r : R2} {Pa : PyData → Prop} {Pb : PyData → PyData → Prop} (ha : XDk K C κ ta Γ Pa) (hb : ∀ x, Pa x → XDk K C κ' tb (bmp κ Γ) (Pb x)) (hr : ∀ x y, Pa x → Pb x y → Op2 K C r x y P) : XDk K C (κ + κ') (tOp r ta tb) Γ P := fun H0 R H σ s w Q q =>
  ha H0 R H σ s w _ fun u x R1 H1 s1 d1 p1 => hb x p1 H0 R1 H1 σ (s.stpK s1) s1.w _ fun v y R2 H2 s2 d2 p2 => hr x y p1 p2 R2 H2 u v s2.w (dp_up s2.r d1) d2 Q fun z d R3 H3 s3 => q z d R3 H3 ((s1.trans s2).trans s3)
theorem xd_op {r : R2} {Pa : PyData → Prop} {Pb : PyData → PyData → Prop} (ha : XD K C ta Γ Pa) (hb : ∀ x, Pa x → XD K C tb Γ (Pb x)) (hr : ∀ x y, Pa x → Pb x y → Op2 K C r x y P) : XD K C (tOp r ta tb) Γ P := fun H0 R H σ s w Q q =>
  ha H0 R H σ s w _ fun u x R1 H1 s1 d1 p1 => hb x p1 H0 R1 H1 σ (s.stp s1) s1.w _ fun v y R2 H2 s2 d2 p2 => hr x y p1 p2 R2 H2 u v s2.w (dp_up s2.r d1) d2 Q fun z d R3 H3 s3 => q z d R3 H3 ((s1.trans s2).trans s3)
theorem xd_op1 {r : R2} {x y : PyData} (ha : XD K C ta Γ (· = x)) (hb : XD K C tb Γ (· = y)) (hr : Op2 K C r x y P) : XD K C (tOp r ta tb) Γ P := xd_op ha (Pb := fun _ => (· = y)) (fun _ _ => hb) fun _ _ e f => by
  subst e f
  exact hr
theorem xd_un {κ : Nat} {r : V → Hp → VK → Prop} {Pa : PyData → Prop} (ha : XDk K C κ ta Γ Pa) (hr : ∀ x, Pa x → Op1 K C r x P) : XDk K C κ (tUn r ta) Γ P := fun H0 R H σ s w Q q =>
  ha H0 R H σ s w _ fun u x R1 H1 s1 d1 p1 => hr x p1 R1 H1 u s1.w d1 Q fun z d R3 H3 s3 => q z d R3 H3 (s1.trans s3)
theorem op2_I0 {g : Int → Int → V} {i j : Int} {d : PyData} (h : ∀ R, Dq K R (g i j) d) : Op2 K C (rI0 g) (.int i) (.int j) (· = d) := fun R H u v w hu hv Q q => by
  cases hu
  cases hv
  exact ⟨i, j, rfl, rfl, q _ _ R H (.refl w) (h R) rfl⟩
theorem op2_I {Cn : Int → Int → Prop} {g : Int → Int → V} {i j : Int} {d : PyData} (hc : Cn i j) (h : ∀ R, Dq K R (g i j) d) : Op2 K C (rI Cn g) (.int i) (.int j) (· = d) := fun R H u v w hu hv Q q => by
  cases hu
  cases hv
  exact ⟨i, j, rfl, rfl, hc, q _ _ R H (.refl w) (h R) rfl⟩

/-! ### tests, and, or, not, if -/
variable {t u : TT}
theorem xt_test {κ : Nat} {B : Bool → Prop} (h : XDk K C κ te Γ (fun d => ∃ b, d = .bool b ∧ B b)) : XTk K C κ (tTest te) Γ B := fun H0 R H σ s w Q q => h H0 R H σ s w _ fun v d R1 H1 s1 d1 ⟨b, e, p⟩ => by
  subst e
  cases d1
  exact ⟨b, rfl, q b R1 H1 s1 p⟩
theorem xt_B {κ : Nat} {B : Bool → Prop} (h : XDk K C κ te Γ (fun d => ∃ b, d = .bool b ∧ B b)) : XTk K C κ (tB te) Γ B := fun H0 R H σ s w Q q => h H0 R H σ s w _ fun v d R1 H1 s1 d1 ⟨b, e, p⟩ => by
  subst e
  cases d1
  exact ⟨b, rfl, q b R1 H1 s1 p⟩
theorem xd_b1 {b : Bool} (h : XD K C te Γ (· = .bool b)) : XD K C te Γ (fun d => ∃ c, d = .bool c ∧ c = b) := h.imp fun d e => ⟨b, e, rfl⟩
theorem xt_not {b : Bool} (h : XT K C t Γ (· = b)) : XT K C (tNot t) Γ (· = !b) := fun H0 R H σ s w Q q => h H0 R H σ s w _ fun c R1 H1 s1 e => q _ R1 H1 s1 (by rw [e])
theorem xt_notP {κ : Nat} {B : Bool → Prop} (h : XTk K C κ t Γ (fun b => B (!b))) : XTk K C κ (tNot t) Γ B := fun H0 R H σ s w Q q => h H0 R H σ s w _ fun c R1 H1 s1 e => q _ R1 H1 s1 e
theorem xt_and {a b : Bool} (h1 : XT K C t Γ (· = a)) (h2 : a = true → XT K C u Γ (· = b)) : XT K C (tAnd t u) Γ (· = (a && b)) := fun H0 R H σ s w Q q => h1 H0 R H σ s w _ fun c R1 H1 s1 e => by
  subst e
  cases c with
  | true =>
    show u σ H1 Q
    exact h2 rfl H0 R1 H1 σ (s.stp s1) s1.w Q fun d R2 H2 s2 f => q d R2 H2 (s1.trans s2) (by rw [f]; rfl)
  | false =>
    show Q false H1
    exact q false R1 H1 s1 rfl
theorem xt_or {a b : Bool} (h1 : XT K C t Γ (· = a)) (h2 : a = false → XT K C u Γ (· = b)) : XT K C (tOr t u) Γ (· = (a || b)) := fun H0 R H σ s w Q q => h1 H0 R H σ s w _ fun c R1 H1 s1 e => by
  subst e
  cases c with
  | true =>
    show Q true H1
    exact q true R1 H1 s1 rfl
  | false =>
    show u σ H1 Q
    exact h2 rfl H0 R1 H1 σ (s.stp s1) s1.w Q fun d R2 H2 s2 f => q d R2 H2 (s1.trans s2) (by rw [f]; rfl)
/-- the second only matters where the first says so; any outcome -/
theorem xt_orP {κ κ' : Nat} {A B : Bool → Prop} (h1 : XTk K C κ t Γ A) (h2 : A false → XTk K C κ' u (bmp κ Γ) B) (hb : A true → B true) : XTk K C (κ + κ') (tOr t u) Γ B := fun H0 R H σ s w Q q => h1 H0 R H σ s w _ fun c R1 H1 s1 e => by
  cases c with
  | true =>
    show Q true H1
    exact q true R1 H1 (s1.le (Nat.le_add_right _ _)) (hb e)
  | false =>
    show u σ H1 Q
    exact h2 e H0 R1 H1 σ (s.stpK s1) s1.w Q fun d R2 H2 s2 f => q d R2 H2 (s1.trans s2) f
theorem xt_andP {κ κ' : Nat} {A B : Bool → Prop} (h1 : XTk K C κ t Γ A) (h2 : A true → XTk K C κ' u (bmp κ Γ) B) (hb : A false → B false) : XTk K C (κ + κ') (tAnd t u) Γ B := fun H0 R H σ s w Q q => h1 H0 R H σ s w _ fun c R1 H1 s1 e => by
  cases c with
  | false =>
    show Q false H1
    exact q false R1 H1 (s1.le (Nat.le_add_right _ _)) (hb e)
  | true =>
    show u σ H1 Q
    exact h2 e H0 R1 H1 σ (s.stpK s1) s1.w Q fun d R2 H2 s2 f => q d R2 H2 (s1.trans s2) f
theorem xd_andV {a : Bool} {d : PyData} (h1 : XD K C ta Γ (· = .bool a)) (h2 : a = true → XD K C tb Γ (· = d)) : XD K C (tAndV ta tb) Γ (· = if a then d else .bool false) := fun H0 R H σ s w Q q => h1 H0 R H σ s w _ fun c x R1 H1 s1 d1 e => by
  subst e
  cases d1
  refine ⟨a, rfl, ?_⟩
  cases a with
  | true =>
    show tb σ H1 Q
    exact h2 rfl H0 R1 H1 σ (s.stp s1) s1.w Q fun v d R2 H2 s2 dp f => q v d R2 H2 (s1.trans s2) dp f
  | false =>
    show Q (.bl false) H1
    exact q _ _ R1 H1 s1 (.bl false) rfl
theorem xd_orV {a : Bool} {d : PyData} (h1 : XD K C ta Γ (· = .bool a)) (h2 : a = false → XD K C tb Γ (· = d)) : XD K C (tOrV ta tb) Γ (· = if a then .bool true else d) := fun H0 R H σ s w Q q => h1 H0 R H σ s w _ fun c x R1 H1 s1 d1 e => by
  subst e
  cases d1
  refine ⟨a, rfl, ?_⟩
  cases a with
  | true =>
    show Q (.bl true) H1
    exact q _ _ R1 H1 s1 (.bl true) rfl
  | false =>
    show tb σ H1 Q
    exact h2 rfl H0 R1 H1 σ (s.stp s1) s1.w Q fun v d R2 H2 s2 dp f => q v d R2 H2 (s1.trans s2) dp f
theorem xd_notV {a : Bool} (h1 : XD K C ta Γ (· = .bool a)) : XD K C (tNotV ta) Γ (· = .bool (!a)) := fun H0 R H σ s w Q q => h1 H0 R H σ s w _ fun c x R1 H1 s1 d1 e => by
  subst e
  cases d1
  exact ⟨a, rfl, q _ _ R1 H1 s1 (.bl _) rfl⟩
theorem xdk_if {κ κ' : Nat} {B : Bool → Prop} (h : XTk K C κ t Γ B) (h1 : B true → XDk K C κ' ta (bmp κ Γ) P) (h2 : B false → XDk K C κ' tb (bmp κ Γ) P) : XDk K C (κ + κ') (tIf t ta tb) Γ P := fun H0 R H σ s w Q q => h H0 R H σ s w _ fun c R1 H1 s1 e => by
  cases c with
  | true =>
    show ta σ H1 Q
    exact h1 e H0 R1 H1 σ (s.stpK s1) s1.w Q fun v d R2 H2 s2 dp f => q v d R2 H2 (s1.trans s2) dp f
  | false =>
    show tb σ H1 Q
    exact h2 e H0 R1 H1 σ (s.stpK s1) s1.w Q fun v d R2 H2 s2 dp f => q v d R2 H2 (s1.trans s2) dp f
theorem xd_if {B : Bool → Prop} (h : XT K C t Γ B) (h1 : B true → XD K C ta Γ P) (h2 : B false → XD K C tb Γ P) : XD K C (tIf t ta tb) Γ P := fun H0 R H σ s w Q q => h H0 R H σ s w _ fun c R1 H1 s1 e => by
  cases c with
  | true =>
    show ta σ H1 Q
    exact h1 e H0 R1 H1 σ (s.stp s1) s1.w Q fun v d R2 H2 s2 dp f => q v d R2 H2 (s1.trans s2) dp f
  | false =>
    show tb σ H1 Q
    exact h2 e H0 R1 H1 σ (s.stp s1) s1.w Q fun v d R2 H2 s2 dp f => q v d R2 H2 (s1.trans s2) dp f
theorem xd_if1 {b : Bool} {x y : PyData} (h : XT K C t Γ (· = b)) (h1 : b = true → XD K C ta Γ (· = x)) (h2 : b = false → XD K C tb Γ (· = y)) : XD K C (tIf t ta tb) Γ (· = if b then x else y) :=
  xd_if h (fun e => (h1 e.symm).imp fun d f => by rw [← e]; exact f) fun e => (h2 e.symm).imp fun d f => by rw [← e]; exact f

/-! ### arguments, displays -/
theorem AOk.up {R R' : Hp} (e : Same R R') {v : V} {r : Ent} (h : AOk K C R v r) : AOk K C R' v r := by
  cases r with
  | unk => exact h
  | own ds => exact h
  | dat d => exact dp_up e h
  | dck n => exact h
  | scr ns => exact let ⟨a, e', q⟩ := h; ⟨a, e', e.seq q⟩
theorem aoks_up {R R' : Hp} (e : Same R R') : ∀ {vs : List V} {rs : List Ent}, Paired (AOk K C R) vs rs → Paired (AOk K C R') vs rs
  | _, _, .nil => .nil
  | _, _, .cons a b => .cons (a.up e) (aoks_up e b)
theorem xa_nil : XA K C tNil Γ (· = []) := fun H0 R H σ s w Q q => q [] [] R H (.refl w) .nil rfl
theorem xak_cons {κ κ' : Nat} {tr : TA} {Pa : PyData → Prop} {Pb : PyData → List Ent → Prop} {PP : List Ent → Prop} (ha : XDk K C κ ta Γ Pa) (hb : ∀ x, Pa x → XAk K C κ' tr (bmp κ Γ) (Pb x)) (hp : ∀ x rs, Pa x → Pb x rs → PP (.dat x :: rs)) : XAk K C (κ + κ') (tCons ta tr) Γ PP := fun H0 R H σ s w Q q =>
  ha H0 R H σ s w _ fun u x R1 H1 s1 d1 p1 => hb x p1 H0 R1 H1 σ (s.stpK s1) s1.w _ fun vs rs R2 H2 s2 a2 p2 => q (u :: vs) (.dat x :: rs) R2 H2 (s1.trans s2) (.cons (dp_up s2.r d1) a2) (hp x rs p1 p2)
theorem xa_cons {tr : TA} {Pa : PyData → Prop} {Pb : PyData → List Ent → Prop} {PP : List Ent → Prop} (ha : XD K C ta Γ Pa) (hb : ∀ x, Pa x → XA K C tr Γ (Pb x)) (hp : ∀ x rs, Pa x → Pb x rs → PP (.dat x :: rs)) : XA K C (tCons ta tr) Γ PP := fun H0 R H σ s w Q q =>
  ha H0 R H σ s w _ fun u x R1 H1 s1 d1 p1 => hb x p1 H0 R1 H1 σ (s.stp s1) s1.w _ fun vs rs R2 H2 s2 a2 p2 => q (u :: vs) (.dat x :: rs) R2 H2 (s1.trans s2) (.cons (dp_up s2.r d1) a2) (hp x rs p1 p2)
theorem xa_cons1 {tr : TA} {x : PyData} {rs : List Ent} (ha : XD K C ta Γ (· = x)) (hb : XA K C tr Γ (· = rs)) : XA K C (tCons ta tr) Γ (· = .dat x :: rs) := xa_cons ha (Pb := fun _ => (· = rs)) (fun _ _ => hb) fun _ _ e f => by rw [e, f]
theorem xa_dck {tr : TA} {rs : List Ent} {i n : Nat} (h : Γ[i]? = some (.dck n)) (hb : XA K C tr Γ (· = rs)) : XA K C (tCons (tVar i) tr) Γ (· = .dck 0 :: rs) := fun H0 R H σ s w Q q => by
  obtain ⟨v, h1, h2⟩ := s.get h (fun z => nomatch z)
  exact ⟨v, h1, hb H0 R H σ s w _ fun vs r R2 H2 s2 a2 p2 => q (v :: vs) (.dck 0 :: r) R2 H2 s2 (.cons h2.1 a2) (by rw [p2])⟩
theorem xa_dckP {κ : Nat} {tr : TA} {PP : List Ent → Prop} {i n : Nat} (h : Γ[i]? = some (.dck n)) (hb : XAk K C κ tr Γ (fun rs => PP (.dck 0 :: rs))) : XAk K C κ (tCons (tVar i) tr) Γ PP := fun H0 R H σ s w Q q => by
  obtain ⟨v, h1, h2⟩ := s.get h (fun z => nomatch z)
  exact ⟨v, h1, hb H0 R H σ s w _ fun vs r R2 H2 s2 a2 p2 => q (v :: vs) (.dck 0 :: r) R2 H2 s2 (.cons h2.1 a2) p2⟩
/-- the arguments are data alone -/
def dats (ds : List PyData) : List Ent := ds.map .dat
theorem dats_ok {R : Hp} : ∀ {vs : List V} {ds : List PyData}, Paired (AOk K C R) vs (dats ds) → DqAll K R vs ds
  | _, [], .nil => .nil
  | _, _ :: _, .cons a b => .cons a (dats_ok b)
theorem xd_tup {ta : TA} {ds : List PyData} (h : XA K C ta Γ (· = dats ds)) (hl : ds.length ≤ 100000 := by decide) : XD K C (tTup ta) Γ (· = .tuple ds) := fun H0 R H σ s w Q q =>
  h H0 R H σ s w _ fun vs rs R1 H1 s1 a e => by
    subst e
    have a' := dats_ok a
    refine ⟨Nat.le_trans (by rw [dps_len a']; exact hl) (by decide), fun p hp => ?_⟩
    exact q _ _ _ _ (s1.trans (Stp.new s1.w hp)) (.tup (.inl (.inl upd_same)) (dps_up (same_upd (s1.w.sub.free hp)) a')) rfl
theorem xo_lst {ta : TA} {ds : List PyData} (h : XA K C ta Γ (· = dats ds)) (hl : ds.length ≤ 100000 := by decide) : XO K C (tLst ta) Γ (· = ds) := fun H0 R H σ s w Q q =>
  h H0 R H σ s w _ fun vs rs R1 H1 s1 a e => by
    subst e
    have a' := dats_ok a
    refine ⟨Nat.le_trans (by rw [dps_len a']; exact hl) (by decide), fun p hp => ?_⟩
    exact q _ _ _ _ _ (s1.trans (Stp.out s1.w hp)) (s1.still hp) upd_same a' (s1.w.sub.free hp) rfl
/-- displays of items that are not told exactly -/
theorem xd_tupP {κ : Nat} {ta : TA} {PP : List PyData → Prop} (h : XAk K C κ ta Γ (fun rs => ∃ ds, rs = dats ds ∧ PP ds)) (hl : ∀ ds, PP ds → ds.length ≤ 100000) : XDk K C κ (tTup ta) Γ (fun d => ∃ ds, d = .tuple ds ∧ PP ds) := fun H0 R H σ s w Q q =>
  h H0 R H σ s w _ fun vs rs R1 H1 s1 a ⟨ds, e, pp⟩ => by
    subst e
    have a' := dats_ok a
    refine ⟨Nat.le_trans (by rw [dps_len a']; exact hl ds pp) (by decide), fun p hp => ?_⟩
    exact q _ _ _ _ (s1.trans (Stp.new s1.w hp)) (.tup (.inl (.inl upd_same)) (dps_up (same_upd (s1.w.sub.free hp)) a')) ⟨ds, rfl, pp⟩
theorem xo_lstP {κ : Nat} {ta : TA} {PP : List PyData → Prop} (h : XAk K C κ ta Γ (fun rs => ∃ ds, rs = dats ds ∧ PP ds)) (hl : ∀ ds, PP ds → ds.length ≤ 100000) : XOk K C κ (tLst ta) Γ PP := fun H0 R H σ s w Q q =>
  h H0 R H σ s w _ fun vs rs R1 H1 s1 a ⟨ds, e, pp⟩ => by
    subst e
    have a' := dats_ok a
    refine ⟨Nat.le_trans (by rw [dps_len a']; exact hl ds pp) (by decide), fun p hp => ?_⟩
    exact q _ _ _ _ _ (s1.trans (Stp.out s1.w hp)) (s1.still hp) upd_same a' (s1.w.sub.free hp) pp
/-- a built-in called by values -/
def OpC (K : PySem.W.Frag) (C : Ctx) (r : List V → Hp → VK → Prop) (ds : List PyData) (P : PyData → Prop) : Prop := ∀ R H vs, Wd C R H → DqAll K R vs ds → ∀ Q : VK, (∀ z d R' H', Stp C R H R' H' → Dq K R' z d → P d → Q z H') → r vs H Q
theorem xd_cb {κ : Nat} {r : List V → Hp → VK → Prop} {ta : TA} {PP : List PyData → Prop} (h : XAk K C κ ta Γ (fun rs => ∃ ds, rs = dats ds ∧ PP ds)) (hr : ∀ ds, PP ds → OpC K C r ds P) : XDk K C κ (tCB r ta) Γ P := fun H0 R H σ s w Q q =>
  h H0 R H σ s w _ fun vs rs R1 H1 s1 a ⟨ds, e, p⟩ => by
    subst e
    exact hr ds p R1 H1 vs s1.w (dats_ok a) Q fun z d R3 H3 s3 => q z d R3 H3 (s1.trans s3)
theorem xa_dats {ta : TA} {ds : List PyData} (h : XA K C ta Γ (· = dats ds)) : XA K C ta Γ (fun rs => ∃ es, rs = dats es ∧ es = ds) := h.imp fun _ e => ⟨ds, e, rfl⟩
theorem xd_cb1 {r : List V → Hp → VK → Prop} {ta : TA} {ds : List PyData} (h : XA K C ta Γ (· = dats ds)) (hr : OpC K C r ds P) : XD K C (tCB r ta) Γ P := xd_cb (xa_dats h) fun _ e => by
  subst e
  exact hr
end

/-! ### statements -/
section
variable {K : PySem.W.Frag} {C : Ctx} {Γ Γ' : List Ent} {P : PyData → Prop} {te : TE} {t1 t2 : TS} {N B Ct : List Ent → Prop} {Rt : Ent → List Ent → Prop} {κ : Nat}
theorem At.stp {H0 R0 H R H' R' : Hp} {σ : L2.St} (a : At K C H0 R0 H R σ Γ) (s : Stp C R H R' H') : At K C H0 R0 H' R' σ Γ := ⟨a.s.trans s.toStU, a.d.stp s⟩
theorem At.stpK {H0 R0 H R H' R' : Hp} {σ : L2.St} (a : At K C H0 R0 H R σ Γ) (s : StK C κ R H R' H') : At K C H0 R0 H' R' σ (bmp κ Γ) := ⟨a.s.trans s.toStU, a.d.stpK s⟩
theorem xs_seq {M : List Ent → Prop} (h1 : XS K C t1 Γ M Rt B Ct) (h2 : ∀ Γ', M Γ' → XS K C t2 Γ' N Rt B Ct) : XS K C (tSeq t1 t2) Γ N Rt B Ct := fun H0 R0 H R σ D a n r b c =>
  h1 H0 R0 H R σ _ a (fun σ' H' R' Γ' m sm a' => h2 Γ' m H0 R0 H' R' σ' D a' (fun σ2 H2 R2 Γ2 z s2 => n σ2 H2 R2 Γ2 z (sm.trans s2)) r (fun σ2 H2 R2 Γ2 z s2 => b σ2 H2 R2 Γ2 z (sm.trans s2)) fun σ2 H2 R2 Γ2 z s2 => c σ2 H2 R2 Γ2 z (sm.trans s2)) r b c
theorem xs_imp {N' B' Ct' : List Ent → Prop} {Rt' : Ent → List Ent → Prop} (h : XS K C t1 Γ N Rt B Ct) (hn : ∀ x, N x → N' x) (hr : ∀ x g, Rt x g → Rt' x g) (hb : ∀ x, B x → B' x) (hc : ∀ x, Ct x → Ct' x) : XS K C t1 Γ N' Rt' B' Ct' := fun H0 R0 H R σ D a n r b c =>
  h H0 R0 H R σ D a (fun σ' H' R' Γ' m => n σ' H' R' Γ' (hn _ m)) (fun v x H' R' σ' Γ' m => r v x H' R' σ' Γ' (hr _ _ m)) (fun σ' H' R' Γ' m => b σ' H' R' Γ' (hb _ m)) fun σ' H' R' Γ' m => c σ' H' R' Γ' (hc _ m)
theorem xs_next : XS K C tNext Γ (· = Γ) Rt B Ct := fun H0 R0 H R σ D a n _ _ _ => n σ H R Γ rfl (.refl R) a
theorem xs_nextP (h : N Γ) : XS K C tNext Γ N Rt B Ct := fun H0 R0 H R σ D a n _ _ _ => n σ H R Γ h (.refl R) a
theorem xs_brk (h : B Γ) : XS K C tBreak Γ N Rt B Ct := fun H0 R0 H R σ D a _ _ b _ => b σ H R Γ h (.refl R) a
theorem xs_cont (h : Ct Γ) : XS K C tCont Γ N Rt B Ct := fun H0 R0 H R σ D a _ _ _ c => c σ H R Γ h (.refl R) a
theorem xsk_asg {i : Nat} (h : XDk K C κ te Γ P) (hn : ∀ d, P d → N ((bmp κ Γ).set i (.dat d))) : XS K C (tAsg te (gName i)) Γ N Rt B Ct := fun H0 R0 H R σ D a n _ _ _ =>
  h H0 R H σ a.d a.s.w _ fun v d R1 H1 s1 d1 p1 => n (σ.set i (some v)) H1 R1 _ (hn d p1) s1.r ⟨(a.stpK s1).s, (a.stpK s1).d.setD d1⟩
theorem xs_asg {i : Nat} (h : XD K C te Γ P) (hn : ∀ d, P d → N (Γ.set i (.dat d))) : XS K C (tAsg te (gName i)) Γ N Rt B Ct := xsk_asg h fun d p => by
  rw [bmp_zero]
  exact hn d p
theorem xsk_asgO {i : Nat} {PP : List PyData → Prop} (h : XOk K C κ te Γ PP) (hn : ∀ d, PP d → N ((bmp κ Γ).set i (.own d))) : XS K C (tAsg te (gName i)) Γ N Rt B Ct := fun H0 R0 H R σ D a n _ _ _ =>
  h H0 R H σ a.d a.s.w _ fun p xs ds R1 H1 s1 h1 h2 h3 h4 pp => n (σ.set i (some (.ref p))) H1 R1 _ (hn ds pp) s1.r ⟨(a.stpK s1).s, (a.stpK s1).d.setO (H₁ := H) h2 h3 h4 (a.d.old p h1) (a.s.w.nm h1) fun j es hj _ hs => by
    rcases bmp_at hj with ⟨_, _, e⟩ | ⟨hj, _⟩
    · cases e
    · obtain ⟨v, g1, q, ys, g2, g3, g4, g5, g6⟩ := a.d.is j _ hj (fun z => nomatch z)
      rw [hs] at g1
      cases g1
      cases g2
      rw [h1] at g3
      cases g3⟩
theorem xs_asgO {i : Nat} {PP : List PyData → Prop} (h : XO K C te Γ PP) (hn : ∀ d, PP d → N (Γ.set i (.own d))) : XS K C (tAsg te (gName i)) Γ N Rt B Ct := xsk_asgO h fun d p => by
  rw [bmp_zero]
  exact hn d p
theorem xsk_asgG {g : TG} {js : List Nat} (h : XDk K C κ te Γ P) (hg : ∀ d, P d → ∃ Γ', XG K C g js d (bmp κ Γ) Γ' ∧ N Γ') : XS K C (tAsg te g) Γ N Rt B Ct := fun H0 R0 H R σ D a n _ _ _ =>
  h H0 R H σ a.d a.s.w _ fun v d R1 H1 s1 d1 p1 => by
    obtain ⟨Γ', g1, g2⟩ := hg d p1
    exact g1 H0 R1 H1 σ v (a.d.stpK s1) s1.w d1 _ fun σ' sd _ => n σ' H1 R1 Γ' g2 s1.r ⟨(a.stpK s1).s, sd⟩
theorem xs_asgG {g : TG} {js : List Nat} (h : XD K C te Γ P) (hg : ∀ d, P d → ∃ Γ', XG K C g js d Γ Γ' ∧ N Γ') : XS K C (tAsg te g) Γ N Rt B Ct := xsk_asgG h fun d p => by
  rw [bmp_zero]
  exact hg d p
theorem xsk_drop (h : XDk K C κ te Γ P) (hn : N (bmp κ Γ)) : XS K C (tDrop te) Γ N Rt B Ct := fun H0 R0 H R σ D a n _ _ _ =>
  h H0 R H σ a.d a.s.w _ fun v d R1 H1 s1 d1 p1 => n σ H1 R1 _ hn s1.r (a.stpK s1)
theorem xs_drop (h : XD K C te Γ P) (hn : N Γ) : XS K C (tDrop te) Γ N Rt B Ct := xsk_drop h (by
  rw [bmp_zero]
  exact hn)
theorem xsk_ret (h : XDk K C κ te Γ P) (hr : ∀ d, P d → Rt (.dat d) (bmp κ Γ)) : XS K C (tRet te) Γ N Rt B Ct := fun H0 R0 H R σ D a _ r _ _ =>
  h H0 R H σ a.d a.s.w _ fun v d R1 H1 s1 d1 p1 => r v (.dat d) H1 R1 σ _ (hr d p1) (a.stpK s1) d1
theorem xs_ret (h : XD K C te Γ P) (hr : ∀ d, P d → Rt (.dat d) Γ) : XS K C (tRet te) Γ N Rt B Ct := xsk_ret h fun d p => by
  rw [bmp_zero]
  exact hr d p
theorem xsk_retO {PP : List PyData → Prop} (h : XOk K C κ te Γ PP) (hr : ∀ d, PP d → Rt (.own d) (bmp κ Γ)) : XS K C (tRet te) Γ N Rt B Ct := fun H0 R0 H R σ D a _ r _ _ =>
  h H0 R H σ a.d a.s.w _ fun p xs ds R1 H1 s1 h1 h2 h3 h4 pp => r (.ref p) (.own ds) H1 R1 σ _ (hr ds pp) (a.stpK s1) ⟨p, xs, rfl, h2, h3, h4, a.d.old p h1, a.s.w.nm h1⟩
theorem xs_retO {PP : List PyData → Prop} (h : XO K C te Γ PP) (hr : ∀ d, PP d → Rt (.own d) Γ) : XS K C (tRet te) Γ N Rt B Ct := xsk_retO h fun d p => by
  rw [bmp_zero]
  exact hr d p
/-- a list of one's own is handed back -/
theorem xs_retV {i : Nat} {ds : List PyData} (h : Γ[i]? = some (.own ds)) (hr : Rt (.own ds) Γ) : XS K C (tRet (tVar i)) Γ N Rt B Ct := fun H0 R0 H R σ D a _ r _ _ => by
  obtain ⟨v, h1, h2⟩ := a.d.get h (fun z => nomatch z)
  exact ⟨v, h1, r v (.own ds) H R σ Γ hr a h2⟩
theorem xs_retN (hr : Rt (.dat .none) Γ) : XS K C tRetN Γ N Rt B Ct := fun H0 R0 H R σ D a _ r _ _ => r .non (.dat .none) H R σ Γ hr a .non
theorem xsk_if {t : TT} {Bp : Bool → Prop} (h : XTk K C κ t Γ Bp) (h1 : Bp true → XS K C t1 (bmp κ Γ) N Rt B Ct) (h2 : Bp false → XS K C t2 (bmp κ Γ) N Rt B Ct) : XS K C (tIfS t t1 t2) Γ N Rt B Ct := fun H0 R0 H R σ D a n r b c =>
  h H0 R H σ a.d a.s.w _ fun k R1 H1 s1 e => by
    cases k with
    | true => exact h1 e H0 R0 H1 R1 σ D (a.stpK s1) (fun σ2 H2 R2 Γ2 z s2 => n σ2 H2 R2 Γ2 z (s1.r.trans s2)) r (fun σ2 H2 R2 Γ2 z s2 => b σ2 H2 R2 Γ2 z (s1.r.trans s2)) fun σ2 H2 R2 Γ2 z s2 => c σ2 H2 R2 Γ2 z (s1.r.trans s2)
    | false => exact h2 e H0 R0 H1 R1 σ D (a.stpK s1) (fun σ2 H2 R2 Γ2 z s2 => n σ2 H2 R2 Γ2 z (s1.r.trans s2)) r (fun σ2 H2 R2 Γ2 z s2 => b σ2 H2 R2 Γ2 z (s1.r.trans s2)) fun σ2 H2 R2 Γ2 z s2 => c σ2 H2 R2 Γ2 z (s1.r.trans s2)
theorem xs_if {t : TT} {Bp : Bool → Prop} (h : XT K C t Γ Bp) (h1 : Bp true → XS K C t1 Γ N Rt B Ct) (h2 : Bp false → XS K C t2 Γ N Rt B Ct) : XS K C (tIfS t t1 t2) Γ N Rt B Ct := xsk_if h (fun e => by
  rw [bmp_zero]
  exact h1 e) fun e => by
  rw [bmp_zero]
  exact h2 e
theorem xs_never (h : False) : XS K C t1 Γ N Rt B Ct := h.elim
/-- the state is known otherwise -/
theorem xs_weak {i : Nat} (h : XS K C t1 (Γ.set i .unk) N Rt B Ct) : XS K C t1 Γ N Rt B Ct := fun H0 R0 H R σ D a n r b c => h H0 R0 H R σ D ⟨a.s, by
  have q := a.d.setU (i := i) (v := (σ[i]?).getD none)
  have e : σ.set i ((σ[i]?).getD none) = σ := by
    apply List.ext_getElem?
    intro j
    by_cases hj : i = j
    · subst hj
      by_cases hl : i < σ.length
      · rw [List.getElem?_set_self hl, List.getElem?_eq_getElem hl]
        rfl
      · rw [List.getElem?_eq_none (by rw [List.length_set]; omega), List.getElem?_eq_none (by omega)]
    · rw [List.getElem?_set_ne hj]
  rw [e] at q
  exact q⟩ n r b c
end
end DL

/-! DLb: promises that know that no guard runs; calls; the law's end. -/
namespace DL
open PySem PySem.Spec PyProof.Rows L2

/-- what a def keeps where no repr is under way -/
structure FnG (P : Program) (w : World) (K : PySem.W.Frag) (mg : Str → Option Value) (base : Heap) (k : Nat) (f : Addr) (fd : FuncData) (ps : List Str) (sp : Sp) : Prop where
  len : ∀ vs H Q E, sp vs H Q E → vs.length = ps.length
  run : ∀ (Ar : Around) (fr : List Env) (sh : Shared) (Hh : Hp) (ag : Args) (us : List Value) (vs : List V) (Q : VK), Room k Ar → Ar.guards = some [] → Env0 P w K mg base Ar fr sh Hh → BindsTo sh fd ag (ps.zip us) → Vals vs us → sp vs Hh Q E0 →
    codeAny (model P w) Ar (.call (.ref f) ag) (CR CX0 fr P w Hh sh Q E0) sh
section
variable {P : Program} {w : World} {K : PySem.W.Frag} {mg : Str → Option Value} {base : Heap} {k j : Nat} {f : Addr} {fd : FuncData} {ps : List Str} {sp sp' : Sp}
theorem FnG.of (F : FnOk P w K mg base CX0 k f fd ps sp) : FnG P w K mg base k f fd ps sp := ⟨F.len, fun A o s H g us vs Q hr _ e b r h => F.run A o s H g us vs Q E0 hr e b r h⟩
theorem FnG.mono (F : FnG P w K mg base j f fd ps sp) (h : j ≤ k) : FnG P w K mg base k f fd ps sp := ⟨F.len, fun A o s H g us vs Q hr => F.run A o s H g us vs Q (hr.mono h)⟩
theorem FnG.imp (F : FnG P w K mg base k f fd ps sp) (h : ∀ vs H Q E, sp' vs H Q E → sp vs H Q E) : FnG P w K mg base k f fd ps sp' :=
  ⟨fun vs H Q E q => F.len vs H Q E (h _ _ _ _ q), fun A o s H g us vs Q hr hg he hb hv hs => F.run A o s H g us vs Q hr hg he hb hv (h _ _ _ _ hs)⟩
/-- a def by its body -/
theorem okG {x qual : Str} {st : Stmt} {N : List Str} (F : Fun K x qual st f fd) (S : FnScope N ps (defScope st)) (len : ∀ vs H Q E, sp vs H Q E → vs.length = ps.length)
    (hbody : ∀ (cdv : Value) (Ar : Around) (fr : List Env) (sh : Shared) (Hh : Hp) (vs : List V) (Q : VK), Room k (Ar.deeper (envOfC qual (defScope st) sh.heap.objs.size f cdv)) → (Ar.deeper (envOfC qual (defScope st) sh.heap.objs.size f cdv)).guards = some [] → sp vs Hh Q E0 →
      ∃ t, PSs (cxOf CX0 P w K mg base N qual (defScope st) f cdv Ar fr sh Hh E0).nox (defBody st) t ∧ t { nx := fun _ H' => Q .non H', rt := Q } (start N vs) Hh) : FnG P w K mg base (k + 1) f fd ps sp := by
  obtain ⟨oc, od, kV, doc, pm, an, cdv, ct, osl, rfl, lk, hcd⟩ := F.ex
  refine ⟨len, fun Ar fr sh Hh ag us vs Q room hg env bind rv hsp => ?_⟩
  have lv : vs.length = ps.length := len _ _ _ _ hsp
  have kin : K.In sh.heap := env.mod.kin.keeps (fun b o z => (env.bs b o z).1)
  have nl : sh.heap.NoLimit := env.mod.nolimit.keeps (fun b o z => (env.bs b o z).1)
  have kinds : ∀ y ∈ ps.zip us, (defScope st).names.lookup y.1 = some .local ∨ ((defScope st).names.lookup y.1 = some .cell ∧ ((cellsFrom (sh.heap.objs.size + 1) (defScope st).names []).lookup y.1).isSome = true) := by
    rintro ⟨n, v⟩ hy
    rcases S.par n (List.of_mem_zip hy).1 with q | q
    · left
      exact q
    · right
      exact ⟨q, PySem.W.cellsFrom_some _ _ _ (Or.inl q)⟩
  refine codeAny_call_function (room.depth) (kin _ _ lk) (rfl) (S.co) (S.gen) rfl (PySem.W.codeRec_of kin hcd) (bind _ _ _ _ ?_)
  refine wpAny_newFunctionEnv_cells (S.kind) kinds (fun en he sh1 x => ?_)
  cases he
  refine ⟨nl.keeps (x.toInCall.keep), codeAny_func ?_⟩
  obtain ⟨t, ht, hq⟩ := hbody cdv Ar fr sh Hh vs Q (room.deeper _) hg hsp
  have I0 : Inv (cxOf CX0 P w K mg base N qual (defScope st) f cdv Ar fr sh Hh E0) [] (start N vs) Hh sh1 := inv_start S room.hd env lv rv x
  refine wpAny_mono ((ht.nox).run [] sh1 (start N vs) Hh _ I0 hq) (fun fl sh2 hs => ?_) (fun e sh2 hs => hs)
  have back : ∀ {σ' : L2.St} {H' : Hp} {v : V} {u : Value}, Inv (cxOf CX0 P w K mg base N qual (defScope st) f cdv Ar fr sh Hh E0) [] σ' H' sh2 → RelV v u → Q v H' → CE fr P w Hh sh Q u sh2 := by
    intro σ' H' v u J r q
    exact ⟨v, H', J.os, J.bare, J.base, J.hok, r, q⟩
  cases fl with
  | ret u =>
    obtain ⟨v, σ', H', J, r, q⟩ := hs
    exact back J r q
  | next =>
    obtain ⟨σ', H', J, q⟩ := hs
    exact back (v := V.non) (u := Value.none) J rfl q
  | brk =>
    obtain ⟨σ', H', J, q⟩ := hs
    exact q.elim
  | cont =>
    obtain ⟨σ', H', J, q⟩ := hs
    exact q.elim
end

/-! ### calls -/
def tG (sp : Sp) (t : TA) : TE := fun σ H Q => t σ H fun vs H1 => sp vs H1 Q E0
def tGK (sp : Sp) (gV : List V → List V → List V) (t tk : TA) : TE := fun σ H Q => t σ H fun vs H1 => tk σ H1 fun zs H2 => sp (gV vs zs) H2 Q E0
section
variable {X : Cx} {k : Nat} {f : Addr} {fd : FuncData} {ps ks : List Str} {sp : Sp} {x : Str} {p pos : Pos} {e : Expr} {es : List Expr} {kws : List Keyword} {t tk : TA}
theorem run_gn {pins : List (Addr × Obj)} {σ : L2.St} {H : Hp} {sh : Shared} {Q : VK} {us : List Value} {kw : List (Str × Value)} {vs : List V} {zs : List Value} (F : FnG X.prog X.w X.K X.mg X.base k f fd ps sp) (room : Room k X.A) (gd : X.A.guards = some [])
    (I : Inv X pins σ H sh) (bd : BindsTo sh fd ⟨us, kw⟩ (ps.zip zs)) (rv : Vals vs zs) (h : sp vs H Q E0) : wpAny (model X.prog X.w) X.A (call (.ref f) us kw) (EP X pins σ Q) X.xe sh := by
  refine wpAny_call (codeAny_mono (F.run X.A X.stack sh H ⟨us, kw⟩ zs vs Q room gd (I.env0) bd rv h) (fun res sh2 hq => ?_))
  match res, hq with
  | .error e, hq => exact False.elim hq
  | .ok (.ret u), hq => exact I.after hq
  | .ok .next, hq => exact False.elim hq
  | .ok .brk, hq => exact False.elim hq
  | .ok .cont, hq => exact False.elim hq
theorem pe_callG (F : FnG X.prog X.w X.K X.mg X.base k f fd ps sp) (room : Room k X.A) (gd : X.A.guards = some []) (gl : Gl X x) (hm : X.mg x = some (.ref f)) (kp : PySem.W.keepIn X.K (.ref f) = true) (bd : Binds X.K fd ps []) (ha : PA X (e :: es) t)
    (hdb : (x == ("__debug__" : Str)) = false := by decide) (se : starEach (e :: es) X.env = (false, eval e X.env) :: starEach es X.env := by rfl) (pl : (backTo pos (starEach es X.env)).any (·.1) = false := by rfl) : PE X (.Call (.Name x p) (e :: es) [] pos) (tG sp t) := by
  refine ⟨fun pins sh σ H Q I h => wpAny_Call_Name_kw (ld_glob I gl hm ?_ hdb)⟩
  refine PySem.W.callWith_K (h₀ := X.base) (I.ok.mod.kin) kp (thn (ha.run pos pins sh σ H _ I h) (fun us s1 ⟨vs, H1, I1, r, q⟩ => ⟨I1.kIn, ?_⟩)) se pl
  have l : us.length = ps.length := (r.length.symm).trans (F.len _ _ _ _ q)
  have b := bd s1 us I1.kIn (by rw [List.append_nil]; exact l)
  rw [List.append_nil] at b
  exact run_gn F room gd I1 b r q
theorem pe_callG0 (F : FnG X.prog X.w X.K X.mg X.base k f fd ps sp) (room : Room k X.A) (gd : X.A.guards = some []) (gl : Gl X x) (hm : X.mg x = some (.ref f)) (kp : PySem.W.keepIn X.K (.ref f) = true) (bd : Binds X.K fd ps [])
    (hdb : (x == ("__debug__" : Str)) = false := by decide) : PE X (.Call (.Name x p) [] [] pos) (tG sp tNil) := by
  refine ⟨fun pins sh σ H Q I h => wpAny_Call_Name_kw (ld_glob I gl hm (PySem.W.callWith_K0 I.kIn kp ?_) hdb)⟩
  have l : ([] : List Value).length = ps.length := F.len _ _ _ _ h
  have b := bd sh [] I.kIn (by rw [List.append_nil]; exact l)
  exact run_gn (us := []) F room gd I b .nil h
/-- keywords alone -/
theorem pe_callGK {g : List Value → List Value → List Value} {gV : List V → List V → List V} (F : FnG X.prog X.w X.K X.mg X.base k f fd ps sp) (room : Room k X.A) (gd : X.A.guards = some []) (gl : Gl X x) (hm : X.mg x = some (.ref f)) (kp : PySem.W.keepIn X.K (.ref f) = true) (bd : KBinds X.K fd ps ks g gV)
    (hkw : PK X kws tk) (hall : (backToKw pos (keywordEach kws X.env)).all (·.1.isSome) = true := by rfl) (hks : (backToKw pos (keywordEach kws X.env)).filterMap (·.1) = ks := by rfl) (hdb : (x == ("__debug__" : Str)) = false := by decide)
    (pl : ((backTo pos (starEach [] X.env)).any (·.1) || (backToKw pos (keywordEach kws X.env)).any (·.1.isNone)) = false := by rfl) : PE X (.Call (.Name x p) [] kws pos) (tGK sp gV tNil tk) := by
  refine ⟨fun pins sh σ H Q I h => wpAny_Call_Name_kw (ld_glob I gl hm (PySem.W.callWith_KW0 (h₀ := X.base) (I.ok.mod.kin) kp hall (thn (hkw.run pos pins sh σ H _ I h) (fun ws s2 ⟨zs, H2, I2, rz, q⟩ => ⟨I2.kIn, ?_⟩)) pl) hdb)⟩
  rw [hks]
  have rr := bd.rel (vs := []) (us := []) .nil rz
  exact run_gn F room gd I2 (bd.to s2 [] ws I2.kIn (rr.length.symm.trans (F.len _ _ _ _ q))) rr q
/-- places, then keywords -/
theorem pe_callGPK {g : List Value → List Value → List Value} {gV : List V → List V → List V} (F : FnG X.prog X.w X.K X.mg X.base k f fd ps sp) (room : Room k X.A) (gd : X.A.guards = some []) (gl : Gl X x) (hm : X.mg x = some (.ref f)) (kp : PySem.W.keepIn X.K (.ref f) = true) (bd : KBinds X.K fd ps ks g gV)
    (ha : PA X (e :: es) t) (hkw : PK X kws tk) (hall : (backToKw pos (keywordEach kws X.env)).all (·.1.isSome) = true := by rfl) (hks : (backToKw pos (keywordEach kws X.env)).filterMap (·.1) = ks := by rfl) (hdb : (x == ("__debug__" : Str)) = false := by decide)
    (se : starEach (e :: es) X.env = (false, eval e X.env) :: starEach es X.env := by rfl)
    (pl : ((backTo pos (starEach (e :: es) X.env)).any (·.1) || (backToKw pos (keywordEach kws X.env)).any (·.1.isNone)) = false := by rfl) : PE X (.Call (.Name x p) (e :: es) kws pos) (tGK sp gV t tk) := by
  refine ⟨fun pins sh σ H Q I h => wpAny_Call_Name_kw (ld_glob I gl hm (PySem.W.callWith_KW (h₀ := X.base) (I.ok.mod.kin) kp hall (thn (ha.run pos pins sh σ H _ I h) (fun us s1 ⟨vs, H1, I1, r, q1⟩ => ?_)) pl se) hdb)⟩
  refine thn (hkw.run pos pins s1 σ H1 _ I1 q1) (fun ws s2 ⟨zs, H2, I2, rz, q⟩ => ⟨I2.kIn, ?_⟩)
  rw [hks]
  have rr := bd.rel r rz
  exact run_gn F room gd I2 (bd.to s2 us ws I2.kIn (rr.length.symm.trans (F.len _ _ _ _ q))) rr q
end

/-! ### promises in data -/
/-- no deck is asked more often than this -/
def cap : Nat := 2 ^ 62
/-- what a def is worth: arguments told by a value of a type of one's own, where it holds, what may come of it; κ: at most so many draws, or no deck at all -/
structure FS where
  α : Type
  enc : α → List Ent
  ok : Ctx → α → Prop
  res : α → Ent → Prop
  κ : Option Nat := none
def PreD : Option Nat → Ctx → Nat → Hp → Prop
  | none, _, _, _ => True
  | some κ, C, n, H => C.D n H ∧ n + κ ≤ cap
def PostD : Option Nat → Ctx → Nat → Hp → Prop
  | none, _, _, _ => True
  | some κ, C, n, H => C.D (n + κ) H
def spG (K : PySem.W.Frag) (S : FS) : Sp := fun vs H Q _ => ∃ C R n, ∃ a : S.α, Wd C R H ∧ Paired (AOk K C R) vs (S.enc a) ∧ S.ok C a ∧ PreD S.κ C n H ∧ ∀ v r R' H', StU C R H R' H' → PostD S.κ C n H' → ROk K C H R' H' v r → S.res a r → Q v H'
theorem least {p : Nat → Prop} : ∀ (n : Nat), p n → ∃ m, m ≤ n ∧ p m ∧ ∀ k, p k → m ≤ k := by
  intro n
  induction n using Nat.strongRecOn with
  | _ n ih =>
    intro h
    by_cases q : ∃ k, k < n ∧ p k
    · obtain ⟨k, l, pk⟩ := q
      obtain ⟨m, a, b, c⟩ := ih k l pk
      exact ⟨m, by omega, b, c⟩
    · refine ⟨n, Nat.le_refl n, h, fun k pk => ?_⟩
      by_cases l : k < n
      · exact absurd ⟨k, l, pk⟩ q
      · omega
section
variable {K : PySem.W.Frag} {C : Ctx} {Γ : List Ent} {S : FS} {ta tk : TA} {P : PyData → Prop} {PP : List Ent → Prop} {R R' H H' H0 : Hp} {κ : Nat}
/-- what keeps everything keeps the deck -/
theorem Wd.zero (w : Wd C R H) : Wd C0 R H := ⟨w.sub, (fun m hm => nomatch hm), (fun m hm => nomatch hm)⟩
theorem StU.lift (w : Wd C R H) (s : StU C0 R H R' H') : Stp C R H R' H' := by
  have keep : ∀ m, m ∈ C.M → H' m = H m := fun m hm => by
    cases e : H m with
    | none => exact absurd e (w.th m hm)
    | some o => exact s.k m o (fun z => nomatch z) e
  refine StU.same (C := C) ⟨s.r, ⟨s.w.sub, fun m hm => ?_, fun m hm => ?_⟩, fun a o _ h => s.k a o (fun z => nomatch z) h, s.n⟩ w keep
  · cases e : R' m with
    | none => rfl
    | some o =>
      rcases s.n m (by rw [e]; exact fun z => nomatch z) with z | z
      · exact absurd (w.out m hm) z
      · exact absurd z (w.th m hm)
  · rw [keep m hm]
    exact w.th m hm
theorem aok_zero {v : V} {r : Ent} (h : AOk K C R v r) (hn : ∀ n, r ≠ .dck n) : AOk K C0 R v r := by
  cases r with
  | dck n => exact absurd rfl (hn n)
  | _ => exact h
theorem aoks_zero : ∀ {vs : List V} {rs : List Ent}, (∀ n, .dck n ∉ rs) → Paired (AOk K C R) vs rs → Paired (AOk K C0 R) vs rs
  | _, _, _, .nil => .nil
  | _, _, hn, .cons a b => .cons (aok_zero a fun n e => hn n (by rw [e]; exact List.mem_cons_self ..)) (aoks_zero (fun n e => hn n (List.mem_cons_of_mem _ e)) b)
/-- a call of a def that has no deck -/
theorem sp_pure {vs : List V} {a : S.α} (hk : S.κ = none) (w : Wd C R H) (ar : Paired (AOk K C R) vs (S.enc a)) (hd : ∀ n, .dck n ∉ S.enc a) (o : S.ok C0 a) {Q : VK}
    (q : ∀ v r R' H', Stp C R H R' H' → ROk K C H R' H' v r → S.res a r → (∀ n, r ≠ .dck n) → Q v H') : spG K S vs H Q E0 := by
  refine ⟨C0, R, 0, a, w.zero, aoks_zero hd ar, o, by rw [hk]; trivial, fun v r R' H' st _ ro po => ?_⟩
  have st' := st.lift w
  cases r with
  | dck n => exact ro.2.elim
  | unk => exact q v .unk R' H' st' trivial po (fun n e => nomatch e)
  | dat d => exact q v (.dat d) R' H' st' ro po (fun n e => nomatch e)
  | scr d => exact q v (.scr d) R' H' st' ro po (fun n e => nomatch e)
  | own ds =>
    obtain ⟨p, xs, e, g1, g2, g3, g4, g5⟩ := ro
    exact q v (.own ds) R' H' st' ⟨p, xs, e, g1, g2, g3, g4, w.nm g4⟩ po (fun n e => nomatch e)
/-- .. of one that has -/
theorem sp_deck {vs : List V} {a : S.α} {i n0 : Nat} (hk : S.κ = some κ) {σ : L2.St} (s : SD K C H0 R H σ Γ) (w : Wd C R H) (hi : Γ[i]? = some (.dck n0)) (hn : n0 + κ ≤ cap) (ar : Paired (AOk K C R) vs (S.enc a)) (o : S.ok C a) {Q : VK}
    (q : ∀ v r R' H', StK C κ R H R' H' → ROk K C H R' H' v r → S.res a r → Q v H') : spG K S vs H Q E0 := by
  obtain ⟨v, _, _, hD⟩ := s.get hi (fun z => nomatch z)
  obtain ⟨m, lm, hm, mn⟩ := least (p := fun n => C.D n H) n0 hD
  refine ⟨C, R, m, a, w, ar, o, by rw [hk]; exact ⟨hm, by omega⟩, fun v r R' H' st pd ro po => q v r R' H' ⟨st, fun n hn => ?_⟩ ro po⟩
  rw [hk] at pd
  exact C.mo _ _ _ (Nat.add_le_add_right (mn n hn) κ) pd
/-- what a pure call asks of a -/
def FS.Ok0 (S : FS) (a : S.α) : Prop := S.κ = none ∧ (∀ n, .dck n ∉ S.enc a) ∧ S.ok C0 a
theorem xd_call {κ : Nat} (h : XAk K C κ ta Γ PP) (hp : ∀ rs, PP rs → ∃ a, rs = S.enc a ∧ S.Ok0 a ∧ ∀ r, S.res a r → ∃ d, r = .dat d ∧ P d) : XDk K C κ (tG (spG K S) ta) Γ P := fun H0 R H σ s w Q q =>
  h H0 R H σ s w _ fun vs rs R1 H1 s1 ar p => by
    obtain ⟨a, e, ⟨k, nd, o⟩, hr⟩ := hp rs p
    subst e
    refine sp_pure k s1.w ar nd o fun v r R2 H2 s2 ro po _ => ?_
    obtain ⟨d, e, pd⟩ := hr r po
    subst e
    exact q v d R2 H2 (s1.trans s2) ro pd
theorem xo_call {κ : Nat} {PO : List PyData → Prop} (h : XAk K C κ ta Γ PP) (hp : ∀ rs, PP rs → ∃ a, rs = S.enc a ∧ S.Ok0 a ∧ ∀ r, S.res a r → ∃ d, r = .own d ∧ PO d) : XOk K C κ (tG (spG K S) ta) Γ PO := fun H0 R H σ s w Q q =>
  h H0 R H σ s w _ fun vs rs R1 H1 s1 ar p => by
    obtain ⟨a, e, ⟨k, nd, o⟩, hr⟩ := hp rs p
    subst e
    refine sp_pure k s1.w ar nd o fun v r R2 H2 s2 ro po _ => ?_
    obtain ⟨d, e, pd⟩ := hr r po
    subst e
    obtain ⟨p, xs, rfl, g1, g2, g3, g4, _⟩ := ro
    exact q p xs d R2 H2 (s1.trans s2) (s1.still g4) g1 g2 g3 pd
/-- keywords alone: g puts them in the parameters' order -/
theorem xd_callK {κ : Nat} {gV : List V → List V → List V} {gE : List Ent → List Ent} (hg : ∀ R vs rs, Paired (AOk K C R) vs rs → Paired (AOk K C R) (gV [] vs) (gE rs)) (h : XAk K C κ tk Γ PP) (hp : ∀ rs, PP rs → ∃ a, gE rs = S.enc a ∧ S.Ok0 a ∧ ∀ r, S.res a r → ∃ d, r = .dat d ∧ P d) :
    XDk K C κ (tGK (spG K S) gV tNil tk) Γ P := fun H0 R H σ s w Q q =>
  h H0 R H σ s w _ fun vs rs R1 H1 s1 ar p => by
    obtain ⟨a, e, ⟨k, nd, o⟩, hr⟩ := hp rs p
    have ar' := hg R1 vs rs ar
    rw [e] at ar'
    refine sp_pure k s1.w ar' nd o fun v r R2 H2 s2 ro po _ => ?_
    obtain ⟨d, e, pd⟩ := hr r po
    subst e
    exact q v d R2 H2 (s1.trans s2) ro pd
theorem xo_callK {κ : Nat} {PO : List PyData → Prop} {gV : List V → List V → List V} {gE : List Ent → List Ent} (hg : ∀ R vs rs, Paired (AOk K C R) vs rs → Paired (AOk K C R) (gV [] vs) (gE rs)) (h : XAk K C κ tk Γ PP) (hp : ∀ rs, PP rs → ∃ a, gE rs = S.enc a ∧ S.Ok0 a ∧ ∀ r, S.res a r → ∃ d, r = .own d ∧ PO d) :
    XOk K C κ (tGK (spG K S) gV tNil tk) Γ PO := fun H0 R H σ s w Q q =>
  h H0 R H σ s w _ fun vs rs R1 H1 s1 ar p => by
    obtain ⟨a, e, ⟨k, nd, o⟩, hr⟩ := hp rs p
    have ar' := hg R1 vs rs ar
    rw [e] at ar'
    refine sp_pure k s1.w ar' nd o fun v r R2 H2 s2 ro po _ => ?_
    obtain ⟨d, e, pd⟩ := hr r po
    subst e
    obtain ⟨p, xs, rfl, g1, g2, g3, g4, _⟩ := ro
    exact q p xs d R2 H2 (s1.trans s2) (s1.still g4) g1 g2 g3 pd
theorem xd_callPK {κ κ' : Nat} {PQ : List Ent → List Ent → Prop} {gV : List V → List V → List V} {gE : List Ent → List Ent → List Ent} (hg : ∀ R us qs vs rs, Paired (AOk K C R) us qs → Paired (AOk K C R) vs rs → Paired (AOk K C R) (gV us vs) (gE qs rs)) (h1 : XAk K C κ ta Γ PP) (h : ∀ qs, PP qs → XAk K C κ' tk (bmp κ Γ) (PQ qs))
    (hp : ∀ qs rs, PP qs → PQ qs rs → ∃ a, gE qs rs = S.enc a ∧ S.Ok0 a ∧ ∀ r, S.res a r → ∃ d, r = .dat d ∧ P d) : XDk K C (κ + κ') (tGK (spG K S) gV ta tk) Γ P := fun H0 R H σ s w Q q =>
  h1 H0 R H σ s w _ fun us qs Ra Ha sa aa pa => h qs pa H0 Ra Ha σ (s.stpK sa) sa.w _ fun vs rs R1 H1 s1 ar p => by
    obtain ⟨a, e, ⟨k, nd, o⟩, hr⟩ := hp qs rs pa p
    have ar' := hg R1 us qs vs rs (aoks_up s1.r aa) ar
    rw [e] at ar'
    refine sp_pure k s1.w ar' nd o fun v r R2 H2 s2 ro po _ => ?_
    obtain ⟨d, e, pd⟩ := hr r po
    subst e
    exact q v d R2 H2 ((sa.trans s1).trans s2) ro pd
/-- with the deck at i -/
theorem xd_callI {κ κ' i n0 : Nat} (hk : S.κ = some κ') (h : XAk K C κ ta Γ PP) (hi : Γ[i]? = some (.dck n0)) (hn : n0 + κ + κ' ≤ cap) (hp : ∀ rs, PP rs → ∃ a, rs = S.enc a ∧ S.ok C a ∧ ∀ r, S.res a r → ∃ d, r = .dat d ∧ P d) : XDk K C (κ + κ') (tG (spG K S) ta) Γ P := fun H0 R H σ s w Q q =>
  h H0 R H σ s w _ fun vs rs R1 H1 s1 ar p => by
    obtain ⟨a, e, o, hr⟩ := hp rs p
    subst e
    have hi' : (bmp κ Γ)[i]? = some (.dck (n0 + κ)) := by
      show (Γ.map _)[i]? = _
      rw [List.getElem?_map, hi]
      rfl
    refine sp_deck hk (s.stpK s1) s1.w hi' hn ar o fun v r R2 H2 s2 ro po => ?_
    obtain ⟨d, e, pd⟩ := hr r po
    subst e
    exact q v d R2 H2 (s1.trans s2) ro pd
theorem xo_callI {κ κ' i n0 : Nat} {PO : List PyData → Prop} (hk : S.κ = some κ') (h : XAk K C κ ta Γ PP) (hi : Γ[i]? = some (.dck n0)) (hn : n0 + κ + κ' ≤ cap) (hp : ∀ rs, PP rs → ∃ a, rs = S.enc a ∧ S.ok C a ∧ ∀ r, S.res a r → ∃ d, r = .own d ∧ PO d) : XOk K C (κ + κ') (tG (spG K S) ta) Γ PO := fun H0 R H σ s w Q q =>
  h H0 R H σ s w _ fun vs rs R1 H1 s1 ar p => by
    obtain ⟨a, e, o, hr⟩ := hp rs p
    subst e
    have hi' : (bmp κ Γ)[i]? = some (.dck (n0 + κ)) := by
      show (Γ.map _)[i]? = _
      rw [List.getElem?_map, hi]
      rfl
    refine sp_deck hk (s.stpK s1) s1.w hi' hn ar o fun v r R2 H2 s2 ro po => ?_
    obtain ⟨d, e, pd⟩ := hr r po
    subst e
    obtain ⟨p, xs, rfl, g1, g2, g3, g4, _⟩ := ro
    exact q p xs d R2 H2 (s1.trans s2) (s1.still g4) g1 g2 g3 pd
end
/-- the names at the entry -/
def ini (n : Nat) (rs : List Ent) : List Ent := rs ++ List.replicate (n - rs.length) .unk
theorem pair_len {α β : Type} {F : α → β → Prop} : ∀ {l₁ : List α} {l₂ : List β}, Paired F l₁ l₂ → l₁.length = l₂.length
  | _, _, .nil => rfl
  | _, _, .cons _ h => by rw [List.length_cons, List.length_cons, pair_len h]
theorem pair_get {α β : Type} {F : α → β → Prop} : ∀ {l₁ : List α} {l₂ : List β} {i : Nat} {b : β}, Paired F l₁ l₂ → l₂[i]? = some b → ∃ a, l₁[i]? = some a ∧ F a b
  | _, _, _, _, .nil, h => by simp at h
  | _, _, 0, _, .cons r _, h => by
    simp at h
    subst h
    exact ⟨_, rfl, r⟩
  | _, _, i + 1, _, .cons _ t, h => by
    obtain ⟨a, h1, h2⟩ := pair_get (i := i) t (by simpa using h)
    exact ⟨a, by simpa using h1, h2⟩
section
variable {P : Program} {w : World} {K : PySem.W.Frag} {mg : Str → Option Value} {base : Heap} {k : Nat} {f : Addr} {fd : FuncData} {ps : List Str} {T : FS}
/-- the deck is at its n-th draw -/
def deal (n : Nat) (rs : List Ent) : List Ent := rs.map fun
    | .dck _ => .dck n
    | r => r
theorem deal_len (n : Nat) (rs : List Ent) : (deal n rs).length = rs.length := List.length_map ..
theorem at_start {C : Ctx} {R H : Hp} {N : List Str} {vs : List V} {n : Nat} {rs : List Ent} (wd : Wd C R H) (a : Paired (AOk K C R) vs rs) (hd : ∀ m, Ent.dck m ∈ rs → C.D n H) (hl : vs.length ≤ N.length) : At K C H R H R (start N vs) (ini N.length (deal n rs)) := by
  have le := pair_len a
  have dl := deal_len n rs
  refine ⟨.refl wd, ⟨?_, fun i r h nu => ?_, fun i j p ds es ne h1 h2 => ?_, fun a h => h⟩⟩
  · unfold L2.start ini
    rw [List.length_append, List.length_append, List.length_map, List.length_replicate, List.length_replicate, le, dl]
  · unfold ini at h
    by_cases hi : i < rs.length
    · rw [List.getElem?_append_left (by rw [dl]; exact hi)] at h
      obtain ⟨q, h0, hq⟩ := Option.map_eq_some_iff.mp ((List.getElem?_map ..).symm.trans h)
      obtain ⟨v, h1, h2⟩ := pair_get a h0
      refine ⟨v, ?_, ?_⟩
      · unfold L2.start
        rw [List.getElem?_append_left (by rw [List.length_map, le]; exact hi), List.getElem?_map, h1]
        rfl
      · cases q with
        | unk => exact h2.elim
        | own ds => exact h2.elim
        | dat d =>
          subst hq
          exact h2
        | dck m =>
          subst hq
          exact ⟨h2, hd m (List.mem_of_getElem? h0)⟩
        | scr ns =>
          subst hq
          exact h2
    · rw [List.getElem?_append_right (by omega), List.getElem?_replicate] at h
      split at h
      · cases h
        exact absurd rfl nu
      · cases h
  · unfold ini at h1
    by_cases hi : i < rs.length
    · rw [List.getElem?_append_left (by rw [dl]; exact hi)] at h1
      obtain ⟨q, h0, hq⟩ := Option.map_eq_some_iff.mp ((List.getElem?_map ..).symm.trans h1)
      obtain ⟨v, _, h3⟩ := pair_get a h0
      cases q with
      | own ds => exact h3.elim
      | _ => cases hq
    · rw [List.getElem?_append_right (by omega), List.getElem?_replicate] at h1
      split at h1 <;> cases h1
/-- what is left at the end: the deck's count -/
def EndD : Option Nat → Nat → List Ent → Prop
  | none, _, _ => True
  | some κ, n, Γ => ∃ (i n' : Nat), Γ[i]? = some (Ent.dck n') ∧ n' ≤ n + κ
theorem EndD.post {κ : Option Nat} {C : Ctx} {n : Nat} {Γ : List Ent} {H0 R H : Hp} {σ : L2.St} (h : EndD κ n Γ) (s : SD K C H0 R H σ Γ) : PostD κ C n H := by
  cases κ with
  | none => trivial
  | some κ =>
    obtain ⟨i, n', h1, h2⟩ := h
    obtain ⟨v, _, _, hD⟩ := s.get h1 (fun z => nomatch z)
    exact C.mo _ _ _ h2 hD
/-- room for draws at the beginning -/
def BegD : Option Nat → Nat → Prop
  | none, _ => True
  | some κ, n => n + κ ≤ cap
/-- a def by its body, in data -/
theorem okD {x qual : Str} {st : Stmt} {N : List Str} (F : Fun K x qual st f fd) (S : FnScope N ps (defScope st)) (len : ∀ C a, T.ok C a → (T.enc a).length = ps.length) (hdk : T.κ = none → ∀ a m, Ent.dck m ∉ T.enc a)
    (hbody : ∀ (cdv : Value) (Ar : Around) (fr : List Env) (sh : Shared) (Hh : Hp) (C : Ctx) (a : T.α) (n : Nat), Room k (Ar.deeper (envOfC qual (defScope st) sh.heap.objs.size f cdv)) → (Ar.deeper (envOfC qual (defScope st) sh.heap.objs.size f cdv)).guards = some [] → T.ok C a → BegD T.κ n →
      ∃ t, PSs (cxOf CX0 P w K mg base N qual (defScope st) f cdv Ar fr sh Hh E0).nox (defBody st) t ∧ XS K C t (ini N.length (deal n (T.enc a))) (fun Γ => T.res a (.dat .none) ∧ EndD T.κ n Γ) (fun r Γ => T.res a r ∧ EndD T.κ n Γ) (fun _ => False) (fun _ => False)) : FnG P w K mg base (k + 1) f fd ps (spG K T) := by
  refine okG F S (fun vs H Q E h => ?_) (fun cdv Ar fr sh Hh vs Q hr hg h => ?_)
  · obtain ⟨C, R, n, a, wd, ar, p, _⟩ := h
    rw [pair_len ar, len C a p]
  · obtain ⟨C, R, n, a, wd, ar, p, pd, q⟩ := h
    have beg : BegD T.κ n := by
      cases e : T.κ with
      | none => trivial
      | some κ =>
        rw [e] at pd
        exact pd.2
    have hD : ∀ m, Ent.dck m ∈ T.enc a → C.D n Hh := fun m hm => by
      cases e : T.κ with
      | none => exact absurd hm (hdk e a m)
      | some κ =>
        rw [e] at pd
        exact pd.1
    obtain ⟨t, h1, h2⟩ := hbody cdv Ar fr sh Hh C a n hr hg p beg
    refine ⟨t, h1, h2 Hh R Hh R (start N vs) _ (at_start wd ar hD ?_) (fun σ' H' R' Γ' po _ at' => q .non (.dat .none) R' H' at'.s (po.2.post at'.d) .non po.1) (fun v r H' R' σ' Γ' po at' ro => q v r R' H' at'.s (po.2.post at'.d) ro po.1) (fun _ _ _ _ z _ => z.elim) fun _ _ _ _ z _ => z.elim⟩
    have := congrArg List.length S.pre
    rw [List.length_take] at this
    rw [pair_len ar, len C a p]
    omega
end

/-! ### the law's end -/
theorem law_callG {P : Program} {w : World} {K : PySem.W.Frag} {mg mb : Str → Option Value} {k : Nat} {fa a : Addr} {fd : FuncData} {x : Str} {S : FS} {sh : Shared} {us : List Value} {ns : List Int}
    (KX : K.In sh.heap) (hns : sh.heap.Ns mainGlobals mg) (hb : sh.heap.Ns builtinsNs mb) (hbb : ∀ x : Str, x ≠ "__name__" → mb x = bootBuiltins x) (hlim : sh.heap.NoLimit) (hg : sh.gens = #[])
    (ha : sh.heap.get? a = some { cls := .type "list", data := .seq us.toArray }) (hi : IntsAre us ns) (hl : ns.length ≤ sizeLine) (room : Room k callerA)
    (F : ∀ base : Heap, K.In base → base.Ns mainGlobals mg → FnG P w K mg base k fa fd [x] (spG K S)) (hbind : ∀ (s : Shared) (u : Value), BindsTo s fd ⟨[u], []⟩ [(x, u)])
    (hp : ∃ a, S.κ = none ∧ S.enc a = [.scr ns] ∧ S.ok C0 a ∧ ∀ r, S.res a r → r = .dat (.bool true)) :
    codeAny (model P w) callerA (.call (.ref fa) ⟨[.ref a], []⟩) (fun r s' => r = .ok (.ret (.bool true)) ∧ OldK sh.heap s'.heap ∧ s'.os = sh.os ∧ AllBare s'.gens) sh := by
  -- the abstract heap: the script alone, known to its object, where it is not the top's own
  have go : ∀ Hs : Hp, Only Hs → SqL K Hs a (ns.map V.int) → HOk P w Hs sh.heap → (∀ b, Hs b ≠ none → b = a) → (Hs a ≠ none → K.lookup a = none) →
      codeAny (model P w) callerA (.call (.ref fa) ⟨[.ref a], []⟩) (fun r s' => r = .ok (.ret (.bool true)) ∧ OldK sh.heap s'.heap ∧ s'.os = sh.os ∧ AllBare s'.gens) sh := by
    intro Hs only sq hok hA hKa
    have keepB : ∀ {b : Addr} {o : Obj}, sh.heap.get? b = some o → Hs b = none → (hidT sh.heap Hs).get? b = some o := fun z n => hidT_get z n
    have noDict : ∀ {b : Addr} {o : Obj} {es : Array DictEntry} {ep : Nat}, sh.heap.get? b = some o → o.data = .dict es ep → Hs b = none := by
      intro b o es ep z d
      cases q : Hs b with
      | none => rfl
      | some u =>
        obtain rfl : b = a := hA b (by rw [q]; exact fun y => nomatch y)
        rw [ha] at z
        cases z
        cases d
    have nsB : ∀ {b : Addr} {m : Str → Option Value}, sh.heap.Ns b m → (hidT sh.heap Hs).Ns b m := by
      rintro b m ⟨o, es, ep, z, d, r⟩
      exact ⟨o, es, ep, keepB z (noDict z d), d, r⟩
    have kB : K.In (hidT sh.heap Hs) := by
      intro b o z
      refine keepB (KX b o z) ?_
      cases q : Hs b with
      | none => rfl
      | some u =>
        obtain rfl : b = a := hA b (by rw [q]; exact fun y => nomatch y)
        rw [hKa (by rw [q]; exact fun y => nomatch y)] at z
        cases z
    have md : Mod K mg (hidT sh.heap Hs) := by
      obtain ⟨mc, l1, l2⟩ := hlim
      exact ⟨kB, nsB hns, ⟨mb, nsB hb, hbb⟩, mc, nsB l1, l2⟩
    have env : Env0 P w K mg (hidT sh.heap Hs) callerA [] sh Hs :=
      ⟨rfl, md, fun b o z => of_hidT z, Nat.le_of_eq (hidT_size _ _), trivial, (by intro b hb'; cases hb'), hok, .of_eq hg⟩
    obtain ⟨ar, e0, e1, e2, e3⟩ := hp
    have hsp : spG K S [.ref a] Hs (fun v _ => v = .bl true) E0 := ⟨C0, Hs, 0, ar, ⟨Same.refl Hs, (by intro m hm; cases hm), (by intro m hm; cases hm)⟩, by rw [e1]; exact .cons ⟨a, rfl, sq⟩ .nil, e2, by rw [e0]; trivial, fun v r R' H' st _ ro po => by
      have e := e3 r po
      subst e
      cases ro
      rfl⟩
    refine codeAny_mono ((F _ kB (nsB hns)).run callerA [] sh Hs ⟨[.ref a], []⟩ [.ref a] [.ref a] _ room rfl env (hbind sh (.ref a)) (.cons rfl .nil) hsp) (fun res s' h => ?_)
    match res, h with
    | .error e, h => exact h.elim
    | .ok .next, h => exact h.elim
    | .ok .brk, h => exact h.elim
    | .ok .cont, h => exact h.elim
    | .ok (.ret u), h =>
      obtain ⟨v, H', os, bare, un, hok', rel, ev⟩ := h
      have ev' : v = .bl true := ev
      subst ev'
      obtain rfl : u = Value.bool true := rel
      refine ⟨rfl, OldK.of_keep (fun b o z => ?_), os, bare⟩
      cases q : Hs b with
      | none => exact un.keep b o z q (by intro y; cases y) (by intro y; cases y)
      | some u =>
        rcases only b with y | ⟨ob, xs, y⟩
        · rw [q] at y
          cases y
        · have y2 := un.frzs b ob _ y
          have k1 := (hok b _ y).1
          have k2 := (hok' b _ y2).1
          rw [z] at k1
          cases k1
          exact k2
  cases hk : K.lookup a with
  | some o =>
    have z := KX a o hk
    rw [ha] at z
    cases z
    refine go (fun _ => none) (fun _ => .inl rfl) (.inr ⟨_, us.toArray, _, hk, rfl, rfl, rfl, ?_, ?_⟩) (fun b u y => nomatch y) (fun b y => absurd rfl y) (fun y => absurd rfl y)
    · rw [List.size_toArray, hi.length]
      exact hl
    · simpa using vals_ints hi
  | none =>
    refine go (fun b => if b = a then some (.frz { cls := .type "list", data := .seq us.toArray } (.lst (ns.map V.int))) else none) (fun b => ?_) (.inl (.inr ⟨{ cls := .type "list", data := .seq us.toArray }, if_pos rfl⟩)) (fun b u y => ?_) (fun b y => ?_) (fun _ => hk)
    · by_cases hb' : b = a
      · exact .inr ⟨_, _, if_pos hb'⟩
      · exact .inl (if_neg hb')
    · by_cases hb' : b = a
      · have y' := (if_pos hb').symm.trans y
        cases y'
        subst hb'
        refine ⟨ha, ?_, us, _, vals_ints hi, ha⟩
        rw [List.length_map]
        exact hl
      · have y' := (if_neg hb').symm.trans y
        cases y'
    · by_cases hb' : b = a
      · exact hb'
      · exact absurd (if_neg hb') y
/-- the goal that k_head leaves -/
theorem walkG {l : PySem.W.OpenLaw} {n k : Nat} {q : Program} {loose : List Str} {XP : (Str → Option Value) → Heap → Prop} {YP : World → Heap → Prop} {d : DefRec} {K : Params → PySem.W.Frag} {S : FS} {x : Str}
    (hn : l.most = some n) (hn2 : n ≤ sizeLine) (hdf : d.params.defaults = []) (room : Room k callerA) (hY : ∀ (w : World) (h : Heap), YP w h → (K w.params).In h)
    (F : ∀ (w : World) (mg : Str → Option Value) (fa : Addr) (h : Heap), (K w.params).In h → h.Ns mainGlobals mg → mg d.name = some (.ref fa) →
      ∃ fd : FuncData, (∀ (s : Shared) (u : Value), BindsTo s fd ⟨[u], []⟩ [(x, u)]) ∧ ∀ base : Heap, (K w.params).In base → base.Ns mainGlobals mg → FnG l.prog w (K w.params) mg base k fa fd [x] (spG (K w.params) S))
    (hp : ∀ ns : List Int, ns.length ≤ n → ∃ a, S.κ = none ∧ S.enc a = [.scr ns] ∧ S.ok C0 a ∧ ∀ r, S.res a r → r = .dat (.bool true)) :
    PySem.W.WalkO q loose XP YP l.row.toRowW d [] (fun f vs => PySem.call f vs) := by
  refine Att.attach_call hn hdf (fun w s₀ s₁ mg mb fa o pm cd doc a vs ns G Y ho hd hcd hmg hobj hints hlen hg => ?_)
  have KX := hY w _ Y
  obtain ⟨fd, hb, hF⟩ := F w mg fa _ KX G.T.g hmg
  exact law_callG KX G.T.g G.T.b G.T.builtins G.T.nolimit hg hobj hints (Nat.le_trans hlen hn2) room hF hb (hp ns hlen)
end DL

/-! DLc: enumerate of a tuple or a text as a walk. -/
namespace DL
open PySem PySem.Spec PyProof.Rows L2
open AutoSeq1 (wpAny_loadPart')

theorem meets_enumT (l : Addr) (items : Array Value) (n : Nat) (dct : Option Addr) (sl : Array (Option Value)) :
    Meets (Builtin.«enumerate.__new__» ⟨[.type "enumerate", .ref l], []⟩) (fun _ R s => s.heap.get? l = some { cls := .type "tuple", dict := dct, data := .seq items n, slots := sl } ∧
      R (.ok (.ret (.ref (s.heap.push { cls := .type "tuple_iterator", data := .fields #[.ref l, .int 0 0] }).objs.size)))
        { s with heap := (s.heap.push { cls := .type "tuple_iterator", data := .fields #[.ref l, .int 0 0] }).push { cls := .type "enumerate", data := .fields #[.none, .bool false, .ref s.heap.objs.size, rawInt 0, .none, .none] } }) :=
  .of_wp fun prog w A R s h => by
    obtain ⟨hp, g, d, tk, os⟩ := s
    obtain ⟨hl, h⟩ := h
    have hsub := sub_enumerate
    have hL : Heap.IsTuple (Shared.heap ⟨hp, g, d, tk, os⟩) l items := ⟨_, hl, rfl, n, rfl⟩
    wp_walk using wpAny_loadPart' hl
    refine wpAny_stack_any fun st => wpAny_pure ?_
    split
    · rename_i c _ _ _ _ _
      cases (c == Value.type "enumerate")
      · wp_walk using wpAny_loadPart' hl, wpAny_pyIter_tuple hL
        exact ⟨_, rfl, h⟩
      · wp_walk using wpAny_loadPart' hl, wpAny_pyIter_tuple hL
        exact ⟨_, rfl, h⟩
    · wp_walk using wpAny_loadPart' hl, wpAny_pyIter_tuple hL
      exact ⟨_, rfl, h⟩
section
variable {prog : Program} {w : World} {A : Around} {E : Value → Shared → Prop} {s : Shared}
theorem call_enumT {l : Addr} {items : Array Value} {Q : Value → Shared → Prop} (hL : s.heap.IsTuple l items)
    (h : ∀ h', IsEnum h' (s.heap.objs.size + 1) s.heap.objs.size 0 .none → h'.IsTupleIter s.heap.objs.size l 0 → h'.objs.size = s.heap.objs.size + 2 →
      (∀ b o, s.heap.get? b = some o → h'.get? b = some o) → Q (.ref (s.heap.objs.size + 1)) { s with heap := h' }) :
    wpAny (model prog w) A (call (.type "enumerate") [.ref l]) Q E s := by
  obtain ⟨⟨c, dct, dt, sl⟩, hl, hc, n, hd⟩ := hL
  replace hc : c = .type "tuple" := hc
  replace hd : dt = .seq items n := hd
  subst hc hd
  refine callType_new F.called_enumerate (by decide) (F.typeCall_enumerate_1 _) (F.newCall_enumerate_1 _) (fun obj => F.args_object_init_2 obj _) F.entry_enumerate_new (meets_enumT l items n dct sl) ⟨hl, ?_⟩
  have hz : (s.heap.push { cls := .type "tuple_iterator", data := .fields #[.ref l, .int 0 0] }).objs.size = s.heap.objs.size + 1 := Heap.size_push ..
  show _ ∧ _
  rw [hz]
  have he : IsEnum ((s.heap.push { cls := .type "tuple_iterator", data := .fields #[.ref l, .int 0 0] }).push
      { cls := .type "enumerate", data := .fields #[.none, .bool false, .ref s.heap.objs.size, rawInt 0, .none, .none] }) (s.heap.objs.size + 1) s.heap.objs.size 0 .none := by
    have z := Heap.get?_push_size (s.heap.push { cls := .type "tuple_iterator", data := .fields #[.ref l, .int 0 0] })
      (o := { cls := .type "enumerate", data := .fields #[.none, .bool false, .ref s.heap.objs.size, rawInt 0, .none, .none] }) rfl
    rw [hz] at z
    exact z
  exact ⟨⟨_, he, rfl⟩, h _ he ⟨_, Heap.get?_push_of_some _ (Heap.get?_push_size _ rfl), rfl, rfl⟩ (by rw [Heap.size_push, hz]) fun b o x => Heap.get?_push_of_some _ (Heap.get?_push_of_some _ x)⟩
end
/-- the tuple at a, each item in a new pair -/
def IteT (K : PySem.W.Frag) (a : Addr) (n : Nat) : It :=
  ⟨fun i H => ∃ (xs : List V) (x : V), SqT K H a xs ∧ xs.length = n ∧ xs[i]? = some x, fun i H v H' => ∃ T x, v = .ref T ∧ H T = none ∧ H' = upd H T (.tup [.int (i : Nat), x]) ∧ ∀ xs, SqT K H a xs → xs[i]? = some x, fun i H => ∃ xs : List V, SqT K H a xs ∧ xs.length = n ∧ n ≤ i⟩
/-- a text's signs, each in a new pair -/
def IteS (y : Str) : It :=
  ⟨fun i _ => i < y.cps.size, fun i H v H' => ∃ T c, v = .ref T ∧ H T = none ∧ H' = upd H T (.tup [.int (i : Nat), .str ⟨#[c]⟩]) ∧ y.cps[i]? = some c, fun i _ => y.cps.size ≤ i⟩
theorem apartT {h : Heap} {a it i : Nat} {its : Array Value} (p : IsTup h a its) (q : h.IsTupleIter it a i) : a ≠ it := by
  rintro rfl
  obtain ⟨o, e, c, _⟩ := p
  obtain ⟨o', e', c', _⟩ := q
  rw [e] at e'
  cases e'
  rw [c] at c'
  exact absurd c' (by decide)
theorem turn_enumT {P : Program} {w : World} {K : PySem.W.Frag} {elts : List Expr} {kk : Nat} {tpos : Pos} (a e it : Addr) (n : Nat) :
    Turn P w K (.Tuple elts kk tpos) (IteT K a n) [e, it] e (fun i h => (∃ old, IsEnum h e it ((i : Nat) : Int) old) ∧ h.IsTupleIter it a i ∧ e ≠ it ∧ e ≠ a ∧ i ≤ n) where
  mem := List.mem_cons_self
  obj := fun i h st b hb => by
    obtain ⟨⟨old, he⟩, ⟨o, ho, hc, hd⟩, _⟩ := st
    rcases List.mem_cons.mp hb with z | hb
    · exact ⟨{ cls := .type "enumerate", data := .fields #[.none, .bool false, .ref it, rawInt i, .none, old] }, by rw [z]; exact he, fun v q => nomatch q⟩
    · refine ⟨o, by rw [List.mem_singleton.mp hb]; exact ho, fun v q => ?_⟩
      rw [hd] at q
      cases q
  keep := fun i h h' st k => by
    obtain ⟨⟨old, he⟩, ⟨o, ho, hr⟩, ne⟩ := st
    exact ⟨⟨old, k e (by simp) _ he⟩, ⟨o, k it (by simp) o ho, hr⟩, ne⟩
  item := by
    intro X hP hw hK hc i pins s σ H E I hf st hg
    subst hP hw hK
    obtain ⟨⟨old, he⟩, hit, hne, hea, hin⟩ := st
    obtain ⟨xs, x, hq, hxn, hx⟩ := hg
    obtain ⟨its, rv, p, hz⟩ := I.tuple hq
    obtain ⟨u, hu, ru⟩ := rv.get hx
    have hel : e < s.heap.objs.size := Heap.lt_size he
    have hil : it < s.heap.objs.size := by
      obtain ⟨_, q, _⟩ := id hit
      exact Heap.lt_size q
    have hl : i < its.toArray.size := by
      rw [List.size_toArray]
      exact (List.getElem?_eq_some_iff.mp hu).1
    have D := Draws.tuple (prog := X.prog) (w := X.w) (A := X.A.in1) (I.ok.hd hc) it a (apartT p hit) its.toArray
    refine wpAny_pyNext_enum_itemD D he ⟨hit, p⟩ hl hne (by simp [hne, hea]) fun y h' tk hP' ho hst' hT hsz hk => ?_
    have ey : y = u := by
      have z : its.toArray[i]? = some u := by simpa using hu
      rw [hP'] at z
      exact Option.some.inj z
    subst ey
    refine ⟨_, rfl, wpAny_letOwnedTupleGo_enum (s := { s with heap := h', toks := tk + 1 }) ho fun h'' he' sb => ?_⟩
    have hT2 : h''.get? s.heap.objs.size = some { cls := .type "tuple", data := .seq #[.int i tk, y] } := (sb.2 _ (Nat.ne_of_gt hel)).trans hT
    have new : ObjOk X.prog X.w (upd H s.heap.objs.size (.tup [.int (i : Nat), x])) h'' s.heap.objs.size (.tup [.int (i : Nat), x]) :=
      ⟨by show 2 ≤ sizeLine; decide, [.int i tk, y], .cons ⟨_, rfl⟩ (.cons ru .nil), ⟨_, hT2, rfl, _, rfl⟩⟩
    have I1 : Inv X pins σ (upd H s.heap.objs.size (.tup [.int (i : Nat), x])) { s with heap := h'', toks := tk + 1 } :=
      I.turnedNew (ch := [e, it]) (fun b ob hb q => (sb.2 b (fun z => hb (by simp [z]))).trans (hk b ob (fun z => hb (by simp [z])) (fun z => hb (by simp [z])) q)) hf (Nat.le_refl _) new
    refine ⟨.ref s.heap.objs.size, _, I1, rfl, ⟨_, x, rfl, I.hok.fresh (Nat.le_refl _), rfl, fun ys hy => ?_⟩, ⟨⟨y, ?_⟩, ?_, hne, hea, by have := (List.getElem?_eq_some_iff.mp hx).1; omega⟩, fun b hb => ?_⟩
    · obtain ⟨its2, rv2, p2, _⟩ := I.tuple hy
      obtain ⟨o1, e1, c1, n1, d1⟩ := id p
      obtain ⟨o2, e2, c2, n2, d2⟩ := id p2
      rw [e1] at e2
      cases e2
      rw [d1] at d2
      have ei : its = its2 := by
        injection d2 with q _
        simpa using q
      subst ei
      -- ys and xs are told of the same values
      have := hq
      rcases hq with q | q <;> rcases hy with q' | q'
      · rcases q with q | ⟨o1, q⟩ <;> rcases q' with q' | ⟨o2, q'⟩ <;> rw [q] at q' <;> cases q' <;> exact hx
      all_goals
        have hl2 := rv2.length
        have hl1 := rv.length
        have hiy : i < ys.length := by
          have := (List.getElem?_eq_some_iff.mp hx).1
          omega
        obtain ⟨z, hz1⟩ : ∃ z, ys[i]? = some z := ⟨_, List.getElem?_eq_getElem hiy⟩
        obtain ⟨u2, hu2, ru2⟩ := rv2.get hz1
        rw [hu] at hu2
        cases hu2
        rw [hz1]
        exact congrArg some (RelV.inj ru2 ru)
    · have e1 : ((i + 1 : Nat) : Int) = (i : Int) + 1 := by omega
      rw [e1]
      exact he'
    · obtain ⟨o, q1, q2⟩ := hst'.1
      exact ⟨o, (sb.2 it (Ne.symm hne)).trans q1, q2⟩
    · have hb' : b < s.heap.objs.size := by
        rcases List.mem_cons.mp hb with z | hb
        · rw [z]
          exact hel
        · rw [List.mem_singleton.mp hb]
          exact hil
      rw [upd_ne (Nat.ne_of_lt hb')]
      exact (hf b hb).1
  done := by
    intro X hP hw hK hc i pins s σ H E I hf st hg
    subst hP hw hK
    obtain ⟨⟨old, he⟩, hit, hne, hea, hin⟩ := st
    obtain ⟨xs, hq, hxn, hx⟩ := hg
    obtain ⟨its, rv, p, hz⟩ := I.tuple hq
    obtain ⟨f0, f1, f2, f3, f4, f5⟩ := hf it (by simp)
    have D := Draws.tuple (prog := X.prog) (w := X.w) (A := X.A.in1) (I.ok.hd hc) it a (apartT p hit) its.toArray
    have hi : i = its.toArray.size := by
      have := rv.length
      rw [List.size_toArray]
      omega
    refine wpAny_pyNext_enum_endD D he (by rw [← hi]; exact ⟨hit, p⟩) fun h' eb => ⟨rfl, I.turned (t' := s.toks) (fun b o hb q => eb b o hb q) f0 f1 f3 f4 f5⟩
  self := fun A i s Q E st h => by
    obtain ⟨⟨_, he⟩, _⟩ := st
    exact wpAny_pyIter_enum he h

theorem turn_enumS {P : Program} {w : World} {K : PySem.W.Frag} {elts : List Expr} {kk : Nat} {tpos : Pos} (y : Str) (ty : Tok) (e it : Addr) :
    Turn P w K (.Tuple elts kk tpos) (IteS y) [e, it] e (fun i h => (∃ old, IsEnum h e it ((i : Nat) : Int) old) ∧ h.IsStrIter it (strIterType y) y ty i ∧ e ≠ it ∧ i ≤ y.cps.size) where
  mem := List.mem_cons_self
  obj := fun i h st b hb => by
    obtain ⟨⟨old, he⟩, ⟨o, ho, hc, hd⟩, _⟩ := st
    rcases List.mem_cons.mp hb with z | hb
    · exact ⟨{ cls := .type "enumerate", data := .fields #[.none, .bool false, .ref it, rawInt i, .none, old] }, by rw [z]; exact he, fun v q => nomatch q⟩
    · refine ⟨o, by rw [List.mem_singleton.mp hb]; exact ho, fun v q => ?_⟩
      rw [hd] at q
      cases q
  keep := fun i h h' st k => by
    obtain ⟨⟨old, he⟩, ⟨o, ho, hr⟩, ne⟩ := st
    exact ⟨⟨old, k e (by simp) _ he⟩, ⟨o, k it (by simp) o ho, hr⟩, ne⟩
  item := by
    intro X hP hw hK hc i pins s σ H E I hf st hg
    subst hP hw hK
    obtain ⟨⟨old, he⟩, hit, hne, hin⟩ := st
    have hl : i < y.cps.size := hg
    have hel : e < s.heap.objs.size := Heap.lt_size he
    have hil : it < s.heap.objs.size := by
      obtain ⟨_, q, _⟩ := id hit
      exact Heap.lt_size q
    have D : Draws X.prog X.w X.A.in1 it [it] y.cps.size (fun i v => ∃ c u, y.cps[i]? = some c ∧ v = .str ⟨#[c]⟩ u) (fun i h => h.IsStrIter it (strIterType y) y ty i) := by
      unfold strIterType
      split
      · exact Draws.strAscii (A := X.A.in1) (I.ok.hd hc) it y ty
      · exact Draws.strWide (A := X.A.in1) (I.ok.hd hc) it y ty
    refine wpAny_pyNext_enum_itemD D he hit hl hne (by simp [hne]) fun z h' tk hP' ho hst' hT hsz hk => ?_
    obtain ⟨c, u, hcp, ez⟩ := hP'
    subst ez
    refine ⟨_, rfl, wpAny_letOwnedTupleGo_enum (s := { s with heap := h', toks := tk + 1 }) ho fun h'' he' sb => ?_⟩
    have hT2 : h''.get? s.heap.objs.size = some { cls := .type "tuple", data := .seq #[.int i tk, .str ⟨#[c]⟩ u] } := (sb.2 _ (Nat.ne_of_gt hel)).trans hT
    have new : ObjOk X.prog X.w (upd H s.heap.objs.size (.tup [.int (i : Nat), .str ⟨#[c]⟩])) h'' s.heap.objs.size (.tup [.int (i : Nat), .str ⟨#[c]⟩]) :=
      ⟨by show 2 ≤ sizeLine; decide, [.int i tk, .str ⟨#[c]⟩ u], .cons ⟨_, rfl⟩ (.cons ⟨_, rfl⟩ .nil), ⟨_, hT2, rfl, _, rfl⟩⟩
    have I1 : Inv X pins σ (upd H s.heap.objs.size (.tup [.int (i : Nat), .str ⟨#[c]⟩])) { s with heap := h'', toks := tk + 1 } :=
      I.turnedNew (ch := [e, it]) (fun b ob hb q => (sb.2 b (fun z => hb (by simp [z]))).trans (hk b ob (fun z => hb (by simp [z])) (fun z => hb (by simp [z])) q)) hf (Nat.le_refl _) new
    refine ⟨.ref s.heap.objs.size, _, I1, rfl, ⟨_, c, rfl, I.hok.fresh (Nat.le_refl _), rfl, hcp⟩, ⟨⟨.str ⟨#[c]⟩ u, ?_⟩, ?_, hne, hl⟩, fun b hb => ?_⟩
    · have e1 : ((i + 1 : Nat) : Int) = (i : Int) + 1 := by omega
      rw [e1]
      exact he'
    · obtain ⟨o, q1, q2⟩ := hst'
      exact ⟨o, (sb.2 it (Ne.symm hne)).trans q1, q2⟩
    · have hb' : b < s.heap.objs.size := by
        rcases List.mem_cons.mp hb with z | hb
        · rw [z]
          exact hel
        · rw [List.mem_singleton.mp hb]
          exact hil
      rw [upd_ne (Nat.ne_of_lt hb')]
      exact (hf b hb).1
  done := by
    intro X hP hw hK hc i pins s σ H E I hf st hg
    subst hP hw hK
    obtain ⟨⟨old, he⟩, hit, hne, hin⟩ := st
    have hg' : y.cps.size ≤ i := hg
    obtain ⟨f0, f1, f2, f3, f4, f5⟩ := hf it (by simp)
    have D : Draws X.prog X.w X.A.in1 it [it] y.cps.size (fun i v => ∃ c u, y.cps[i]? = some c ∧ v = .str ⟨#[c]⟩ u) (fun i h => h.IsStrIter it (strIterType y) y ty i) := by
      unfold strIterType
      split
      · exact Draws.strAscii (A := X.A.in1) (I.ok.hd hc) it y ty
      · exact Draws.strWide (A := X.A.in1) (I.ok.hd hc) it y ty
    have hi : i = y.cps.size := by omega
    exact wpAny_pyNext_enum_endD D he (by rw [← hi]; exact hit) fun h' eb => ⟨rfl, I.turned (t' := s.toks) (fun b o hb q => eb b o hb q) f0 f1 f3 f4 f5⟩
  self := fun A i s Q E st h => by
    obtain ⟨⟨_, he⟩, _⟩ := st
    exact wpAny_pyIter_enum he h
/-- enumerate of a list, a tuple, a text -/
def iEnumA (K : PySem.W.Frag) (ta : TA) : TI := fun σ H R => ta σ H fun vs H1 => (∃ a xs, vs = [.ref a] ∧ SqL K H1 a xs ∧ R (Ite K a) H1) ∨ (∃ a xs, vs = [.ref a] ∧ SqT K H1 a xs ∧ R (IteT K a xs.length) H1) ∨ ∃ y, vs = [.str y] ∧ R (IteS y) H1
theorem pi_enumA {X : Cx} {e : Expr} {ta : TA} {p pos tpos : Pos} {elts : List Expr} {kk : Nat} (hg : Gl X "enumerate") (hm : X.mg "enumerate" = none) (ha : PA X [e] ta) (hs : starEach [e] X.env = [(false, eval e X.env)] := by rfl) :
    PI X (.Tuple elts kk tpos) (.Call (.Name "enumerate" p) [e] [] pos) (iEnumA X.K ta) := by
  refine ⟨fun pins s σ H R I h => Call_ (ld_blt I hg hm boot_enumerate (PyProof.Rows.callWith_type1 (thn (ha.run pos pins s σ H _ I h) fun us s1 ⟨vs, H1, I1, r1, q1⟩ => ?_) hs rfl))⟩
  have two : ∀ b, b ∈ [s1.heap.objs.size + 1, s1.heap.objs.size] → FpOk X pins H1 b := fun b hb => by
    have hle : s1.heap.objs.size ≤ b := by
      rcases List.mem_cons.mp hb with z | hb
      · rw [z]
        exact Nat.le_add_right _ _
      · rw [List.mem_singleton.mp hb]
        exact Nat.le_refl _
    exact I1.fpOk hle (I1.hok.fresh hle)
  rcases q1 with ⟨a, xs, rfl, hq, q⟩ | ⟨a, xs, rfl, hq, q⟩ | ⟨y, rfl, q⟩
  · cases r1 with
    | cons r rr =>
      cases rr
      cases r
      obtain ⟨its, rv, p', hz⟩ := I1.list hq
      refine call_enumerate_list p'.isList fun h' he hit hsz hk => wpAny_pyIter_enum he ?_
      have I2 : Inv X pins σ H1 { s1 with heap := h' } := I1.kept (t' := s1.toks) hk
      exact ⟨s1.heap.objs.size + 1, [s1.heap.objs.size + 1, s1.heap.objs.size], _, _, H1, rfl, I2, turn_enum a (s1.heap.objs.size + 1) s1.heap.objs.size, ⟨⟨.none, he⟩, hit, Nat.succ_ne_self _⟩, two, q⟩
  · cases r1 with
    | cons r rr =>
      cases rr
      cases r
      obtain ⟨its, rv, p', hz⟩ := I1.tuple hq
      have la : a < s1.heap.objs.size := by
        obtain ⟨_, z, _⟩ := id p'
        exact Heap.lt_size z
      refine call_enumT (show s1.heap.IsTuple a its.toArray from p') fun h' he hit hsz hk => wpAny_pyIter_enum he ?_
      have I2 : Inv X pins σ H1 { s1 with heap := h' } := I1.kept (t' := s1.toks) hk
      exact ⟨s1.heap.objs.size + 1, [s1.heap.objs.size + 1, s1.heap.objs.size], _, _, H1, rfl, I2, turn_enumT a (s1.heap.objs.size + 1) s1.heap.objs.size xs.length, ⟨⟨.none, he⟩, hit, Nat.succ_ne_self _, Nat.ne_of_gt (Nat.lt_succ_of_lt la), Nat.zero_le _⟩, two, q⟩
  · cases r1 with
    | cons r rr =>
      cases rr
      obtain ⟨t, rfl⟩ := r
      refine call_enumerate_str fun h' he hit hsz hk => wpAny_pyIter_enum he ?_
      have I2 : Inv X pins σ H1 { s1 with heap := h' } := I1.kept (t' := s1.toks) hk
      exact ⟨s1.heap.objs.size + 1, [s1.heap.objs.size + 1, s1.heap.objs.size], _, _, H1, rfl, I2, turn_enumS y t (s1.heap.objs.size + 1) s1.heap.objs.size, ⟨⟨.none, he⟩, hit, Nat.succ_ne_self _, Nat.zero_le _⟩, two, q⟩
/-- what is walked is one of two -/
theorem pi_or {X : Cx} {tg it : Expr} {w1 w2 : TI} (h1 : PI X tg it w1) (h2 : PI X tg it w2) : PI X tg it (fun σ H R => w1 σ H R ∨ w2 σ H R) :=
  ⟨fun pins s σ H R I h => h.elim (fun z => h1.run pins s σ H R I z) fun z => h2.run pins s σ H R I z⟩
/-- a list, a tuple, a text -/
def iSeq (K : PySem.W.Frag) (tl : TE) : TI := fun σ H R => iList K tl σ H R ∨ (iTup K tl σ H R ∨ iStr tl σ H R)
theorem pi_seq {X : Cx} {tg e : Expr} {te : TE} (h : PE X e te) : PI X tg e (iSeq X.K te) := pi_or (pi_list h) (pi_or (pi_tup h) (pi_str h))

/-! ### walks in data -/
section
variable {K : PySem.W.Frag} {C : Ctx} {Γ Γ' : List Ent} {tl : TE} {ta : TA}
/-- what a sequence walks -/
inductive SeqOf : PyData → List PyData → Prop
  | list (ds : List PyData) : SeqOf (.list ds) ds
  | tup (ds : List PyData) : SeqOf (.tuple ds) ds
  | str (x : Str) : SeqOf (.str x) (x.cps.toList.map fun c => .str ⟨#[c]⟩)
theorem walks_list {R : Hp} {a : Addr} {xs : List V} {ds : List PyData} (h : Rd R a (.lst xs)) (hd : DqAll K R xs ds) : Walks K C (Itl K a) R ds := fun i R' H sm w => by
  have hH : SqL K H a xs := .inl (rd_up w.sub (rd_up sm h))
  refine ⟨fun d hi => ?_, fun hi => ⟨xs, hH, by rw [dps_len hd]; exact hi⟩⟩
  obtain ⟨v, h1, h2⟩ := dps_get hd hi
  refine ⟨⟨xs, v, hH, h1⟩, fun x H' y => ?_⟩
  obtain ⟨e, y⟩ := y
  subst e
  have e2 : x = v := Option.some.inj ((y xs hH).symm.trans h1)
  subst e2
  exact ⟨R', .refl w, dp_up sm h2⟩
theorem walks_tup {R : Hp} {a : Addr} {xs : List V} {ds : List PyData} (h : SqT K R a xs) (hd : DqAll K R xs ds) : Walks K C (Itt K a) R ds := fun i R' H sm w => by
  have hH : SqT K H a xs := sqT_up w.sub (sqT_up sm h)
  refine ⟨fun d hi => ?_, fun hi => ⟨xs, hH, by rw [dps_len hd]; exact hi⟩⟩
  obtain ⟨v, h1, h2⟩ := dps_get hd hi
  refine ⟨⟨xs, v, hH, h1⟩, fun x H' y => ?_⟩
  obtain ⟨e, y⟩ := y
  subst e
  have e2 : x = v := Option.some.inj ((y xs hH).symm.trans h1)
  subst e2
  exact ⟨R', .refl w, dp_up sm h2⟩
theorem walks_str {R : Hp} {x : Str} : Walks K C (Its x) R (x.cps.toList.map fun c => .str ⟨#[c]⟩) := fun i R' H sm w => by
  refine ⟨fun d hi => ?_, fun hi => ?_⟩
  · rw [List.getElem?_map] at hi
    obtain ⟨c, hc, e⟩ := Option.map_eq_some_iff.mp hi
    have hc' : x.cps[i]? = some c := by simpa using hc
    subst e
    refine ⟨(Array.getElem?_eq_some_iff.mp hc').1, fun v H' y => ?_⟩
    obtain ⟨e, c', h1, rfl⟩ := y
    subst e
    rw [hc'] at h1
    cases h1
    exact ⟨R', .refl w, .str _⟩
  · rw [List.length_map, Array.length_toList] at hi
    exact hi
/-- lo, lo + 1, .. -/
def rng (lo : Int) (n : Nat) : List PyData := (List.range n).map fun i => .int (lo + (i : Nat))
theorem rng_get {lo : Int} {n i : Nat} {d : PyData} (h : (rng lo n)[i]? = some d) : i < n ∧ d = .int (lo + (i : Nat)) := by
  unfold rng at h
  rw [List.getElem?_map] at h
  obtain ⟨c, hc, e⟩ := Option.map_eq_some_iff.mp h
  have hl := (List.getElem?_eq_some_iff.mp hc).1
  rw [List.length_range] at hl
  rw [List.getElem?_range hl] at hc
  cases hc
  exact ⟨hl, e.symm⟩
theorem rng_len {lo : Int} {n : Nat} : (rng lo n).length = n := by
  unfold rng
  rw [List.length_map, List.length_range]
theorem walks_rng {R : Hp} {lo : Int} {n : Nat} : Walks K C (Itr lo n) R (rng lo n) := fun i R' H sm w => by
  refine ⟨fun d hi => ?_, fun hi => by rw [rng_len] at hi; exact hi⟩
  obtain ⟨h1, rfl⟩ := rng_get hi
  refine ⟨h1, fun v H' y => ?_⟩
  obtain ⟨e, rfl⟩ := y
  subst e
  exact ⟨R', .refl w, .int _⟩
/-- (0, a), (1, b), .. -/
def enumd (ds : List PyData) : List PyData := ds.mapIdx fun i d => .tuple [.int (i : Nat), d]
theorem enumd_get {ds : List PyData} {i : Nat} {e : PyData} (h : (enumd ds)[i]? = some e) : ∃ d, ds[i]? = some d ∧ e = .tuple [.int (i : Nat), d] := by
  unfold enumd at h
  rw [List.getElem?_mapIdx] at h
  obtain ⟨d, h1, h2⟩ := Option.map_eq_some_iff.mp h
  exact ⟨d, h1, h2.symm⟩
theorem walks_enumL {R : Hp} {a : Addr} {xs : List V} {ds : List PyData} (h : Rd R a (.lst xs)) (hd : DqAll K R xs ds) : Walks K C (Ite K a) R (enumd ds) := fun i R' H sm w => by
  have hH : SqL K H a xs := .inl (rd_up w.sub (rd_up sm h))
  refine ⟨fun e hi => ?_, fun hi => ⟨xs, hH, by unfold enumd at hi; rw [List.length_mapIdx] at hi; rw [dps_len hd]; exact hi⟩⟩
  obtain ⟨d, hj, rfl⟩ := enumd_get hi
  obtain ⟨v, h1, h2⟩ := dps_get hd hj
  refine ⟨⟨xs, v, hH, h1⟩, fun x H' y => ?_⟩
  obtain ⟨T, x', rfl, nT, rfl, y⟩ := y
  have e2 : x' = v := Option.some.inj ((y xs hH).symm.trans h1)
  subst e2
  have st := Stp.new w (o := .tup [.int (i : Nat), x']) nT
  exact ⟨_, st, .tup (.inl (.inl upd_same)) (.cons (.int _) (.cons (dp_up st.r (dp_up sm h2)) .nil))⟩
theorem walks_enumT {R : Hp} {a : Addr} {xs : List V} {ds : List PyData} (h : SqT K R a xs) (hd : DqAll K R xs ds) : Walks K C (IteT K a xs.length) R (enumd ds) := fun i R' H sm w => by
  have hH : SqT K H a xs := sqT_up w.sub (sqT_up sm h)
  refine ⟨fun e hi => ?_, fun hi => ⟨xs, hH, rfl, by unfold enumd at hi; rw [List.length_mapIdx] at hi; rw [dps_len hd]; exact hi⟩⟩
  obtain ⟨d, hj, rfl⟩ := enumd_get hi
  obtain ⟨v, h1, h2⟩ := dps_get hd hj
  refine ⟨⟨xs, v, hH, rfl, h1⟩, fun x H' y => ?_⟩
  obtain ⟨T, x', rfl, nT, rfl, y⟩ := y
  have e2 : x' = v := Option.some.inj ((y xs hH).symm.trans h1)
  subst e2
  have st := Stp.new w (o := .tup [.int (i : Nat), x']) nT
  exact ⟨_, st, .tup (.inl (.inl upd_same)) (.cons (.int _) (.cons (dp_up st.r (dp_up sm h2)) .nil))⟩
theorem walks_enumS {R : Hp} {x : Str} : Walks K C (IteS x) R (enumd (x.cps.toList.map fun c => .str ⟨#[c]⟩)) := fun i R' H sm w => by
  refine ⟨fun d hi => ?_, fun hi => ?_⟩
  · obtain ⟨d', hj, rfl⟩ := enumd_get hi
    rw [List.getElem?_map] at hj
    obtain ⟨c, hc, e⟩ := Option.map_eq_some_iff.mp hj
    have hc' : x.cps[i]? = some c := by simpa using hc
    subst e
    refine ⟨(Array.getElem?_eq_some_iff.mp hc').1, fun v H' y => ?_⟩
    obtain ⟨T, c', rfl, nT, rfl, h1⟩ := y
    rw [hc'] at h1
    cases h1
    have st := Stp.new w (o := .tup [.int (i : Nat), .str ⟨#[c]⟩]) nT
    exact ⟨_, st, .tup (.inl (.inl upd_same)) (.cons (.int _) (.cons (.str _) .nil))⟩
  · unfold enumd at hi
    rw [List.length_mapIdx, List.length_map, Array.length_toList] at hi
    exact hi
theorem xi_seq {d : PyData} {ds : List PyData} (h : XD K C tl Γ (· = d)) (hs : SeqOf d ds) : XI K C (iSeq K tl) Γ (· = ds) := fun H0 R H σ s w Q q => by
  cases hs with
  | list =>
    refine .inl (h H0 R H σ s w _ fun v d R1 H1 s1 d1 e => ?_)
    subst e
    cases d1 with
    | lst hq ha => exact ⟨_, rfl, ⟨_, .inl (rd_up s1.w.sub hq)⟩, q _ _ R1 H1 s1 (walks_list hq ha) rfl⟩
  | tup =>
    refine .inr (.inl (h H0 R H σ s w _ fun v d R1 H1 s1 d1 e => ?_))
    subst e
    cases d1 with
    | tup hq ha => exact ⟨_, rfl, ⟨_, sqT_up s1.w.sub hq⟩, q _ _ R1 H1 s1 (walks_tup hq ha) rfl⟩
  | str x =>
    refine .inr (.inr (h H0 R H σ s w _ fun v d R1 H1 s1 d1 e => ?_))
    subst e
    cases d1
    exact ⟨x, rfl, q _ _ R1 H1 s1 walks_str rfl⟩
/-- a list of which not all is known -/
theorem xi_listP {PP : List PyData → Prop} (h : XD K C tl Γ (fun d => ∃ ds, d = .list ds ∧ PP ds)) : XI K C (iSeq K tl) Γ PP := fun H0 R H σ s w Q q => .inl (h H0 R H σ s w _ fun v d R1 H1 s1 d1 ⟨ds, e, pp⟩ => by
  subst e
  cases d1 with
  | lst hq ha => exact ⟨_, rfl, ⟨_, .inl (rd_up s1.w.sub hq)⟩, q _ _ R1 H1 s1 (walks_list hq ha) pp⟩)
theorem xi_tupP {PP : List PyData → Prop} (h : XD K C tl Γ (fun d => ∃ ds, d = .tuple ds ∧ PP ds)) : XI K C (iSeq K tl) Γ PP := fun H0 R H σ s w Q q => .inr (.inl (h H0 R H σ s w _ fun v d R1 H1 s1 d1 ⟨ds, e, pp⟩ => by
  subst e
  cases d1 with
  | tup hq ha => exact ⟨_, rfl, ⟨_, sqT_up s1.w.sub hq⟩, q _ _ R1 H1 s1 (walks_tup hq ha) pp⟩))
/-- a list of one's own is walked: it does not change meanwhile; the walked one is a frozen copy in the world R -/
theorem xi_enum {d : PyData} {ds : List PyData} (h : XA K C ta Γ (· = [.dat d])) (hs : SeqOf d ds) : XI K C (iEnumA K ta) Γ (· = enumd ds) := fun H0 R H σ s w Q q => h H0 R H σ s w _ fun vs rs R1 H1 s1 a e => by
  subst e
  cases a with
  | cons a1 a2 =>
    cases a2
    have a1' : Dq K R1 _ d := a1
    cases hs with
    | list =>
      cases a1' with
      | lst hq ha => exact .inl ⟨_, _, rfl, .inl (rd_up s1.w.sub hq), q _ _ R1 H1 s1 (walks_enumL hq ha) rfl⟩
    | tup =>
      cases a1' with
      | tup hq ha => exact .inr (.inl ⟨_, _, rfl, sqT_up s1.w.sub hq, q _ _ R1 H1 s1 (walks_enumT hq ha) rfl⟩)
    | str x =>
      cases a1'
      exact .inr (.inr ⟨x, rfl, q _ _ R1 H1 s1 walks_enumS rfl⟩)
theorem xi_rng1 {n : Int} (h : XA K C ta Γ (· = [.dat (.int n)])) (hn : -(2 ^ 62) ≤ n ∧ n < 2 ^ 62) : XI K C (iRng1 ta) Γ (· = rng 0 n.toNat) := fun H0 R H σ s w Q q => h H0 R H σ s w _ fun vs rs R1 H1 s1 a e => by
  subst e
  cases a with
  | cons a1 a2 =>
    cases a2
    have a1' : Dq K R1 _ (.int n) := a1
    cases a1'
    exact ⟨n, rfl, hn.1, hn.2, q _ _ R1 H1 s1 walks_rng rfl⟩
theorem xi_rng2 {m n : Int} (h : XA K C ta Γ (· = [.dat (.int m), .dat (.int n)])) (hm : -(2 ^ 62) ≤ m ∧ m < 2 ^ 62) (hn : -(2 ^ 62) ≤ n ∧ n < 2 ^ 62) : XI K C (iRng2 ta) Γ (· = rng m (n - m).toNat) := fun H0 R H σ s w Q q => h H0 R H σ s w _ fun vs rs R1 H1 s1 a e => by
  subst e
  cases a with
  | cons a1 a2 =>
    cases a2 with
    | cons a3 a4 =>
      cases a4
      have a1' : Dq K R1 _ (.int m) := a1
      have a3' : Dq K R1 _ (.int n) := a3
      cases a1'
      cases a3'
      exact ⟨m, n, rfl, ⟨hm.1, hm.2, hn.1, hn.2⟩, q _ _ R1 H1 s1 walks_rng rfl⟩

/-! ### targets -/
theorem wipe_get {σ : L2.St} {i : Nat} : ∀ {vs : List Nat}, i ∉ vs → (wipe σ vs)[i]? = σ[i]?
  | [], _ => rfl
  | v :: vs, h => by
    have h1 : ¬ v = i := fun e => h (by rw [e]; exact List.mem_cons_self)
    show ((wipe σ vs).set v none)[i]? = _
    rw [List.getElem?_set_ne h1]
    exact wipe_get fun z => h (List.mem_cons_of_mem _ z)
theorem wipe_set {σ : L2.St} {j : Nat} {x : Option V} : ∀ {vs : List Nat}, j ∈ vs → wipe (σ.set j x) vs = wipe σ vs
  | [], h => nomatch h
  | v :: vs, h => by
    show (wipe (σ.set j x) vs).set v none = (wipe σ vs).set v none
    by_cases hv : j ∈ vs
    · rw [wipe_set hv]
    · rcases List.mem_cons.mp h with e | e
      · subst e
        apply List.ext_getElem?
        intro i
        by_cases hi : j = i
        · subst hi
          by_cases hl : j < σ.length
          · rw [List.getElem?_set_self (by rw [wipe_length, List.length_set]; exact hl), List.getElem?_set_self (by rw [wipe_length]; exact hl)]
          · rw [List.getElem?_eq_none (by rw [List.length_set, wipe_length, List.length_set]; omega), List.getElem?_eq_none (by rw [List.length_set, wipe_length]; omega)]
        · rw [List.getElem?_set_ne hi, List.getElem?_set_ne hi]
          by_cases hi2 : i ∈ vs
          · exact wipe_at hi hi2
          · rw [wipe_get hi2, wipe_get hi2, List.getElem?_set_ne hi]
      · exact absurd e hv
where
  wipe_at {σ : L2.St} {j i : Nat} {x : Option V} (hi : ¬ j = i) : ∀ {vs : List Nat}, i ∈ vs → (wipe (σ.set j x) vs)[i]? = (wipe σ vs)[i]?
    | [], h => nomatch h
    | v :: vs, h => by
      show ((wipe (σ.set j x) vs).set v none)[i]? = ((wipe σ vs).set v none)[i]?
      by_cases e : v = i
      · subst e
        by_cases hl : v < σ.length
        · rw [List.getElem?_set_self (by rw [wipe_length, List.length_set]; exact hl), List.getElem?_set_self (by rw [wipe_length]; exact hl)]
        · rw [List.getElem?_eq_none (by rw [List.length_set, wipe_length, List.length_set]; omega), List.getElem?_eq_none (by rw [List.length_set, wipe_length]; omega)]
      · rw [List.getElem?_set_ne e, List.getElem?_set_ne e]
        rcases List.mem_cons.mp h with z | z
        · exact absurd z.symm e
        · exact wipe_at hi z
theorem wipe_wipe {σ : L2.St} (vs : List Nat) : wipe (wipe σ vs) vs = wipe σ vs := by
  have aux : ∀ ws : List Nat, (∀ v, v ∈ ws → v ∈ vs) → wipe (wipe σ ws) vs = wipe σ vs := by
    intro ws
    induction ws with
    | nil => intro _; rfl
    | cons w r ih =>
      intro h
      show wipe ((wipe σ r).set w none) vs = _
      rw [wipe_set (h w List.mem_cons_self)]
      exact ih fun v hv => h v (List.mem_cons_of_mem _ hv)
  exact aux vs fun _ h => h
theorem SD.wipe {H0 R H : Hp} {σ : L2.St} (s : SD K C H0 R H σ Γ) : ∀ {vs : List Nat}, (∀ v, v ∈ vs → Γ[v]? = some .unk) → SD K C H0 R H (wipe σ vs) Γ
  | [], _ => s
  | v :: vs, h => by
    have q := (SD.wipe s (vs := vs) fun u hu => h u (List.mem_cons_of_mem _ hu)).setU (i := v) (v := none)
    have e : Γ.set v .unk = Γ := by
      have hv := h v List.mem_cons_self
      apply List.ext_getElem?
      intro i
      by_cases hi : v = i
      · subst hi
        rw [List.getElem?_set_self (List.getElem?_eq_some_iff.mp hv).1, hv]
      · rw [List.getElem?_set_ne hi]
    rw [e] at q
    exact q
theorem xg_name {i : Nat} {d : PyData} : XG K C (gName i) [i] d Γ (Γ.set i (.dat d)) := fun H0 R H σ v s w dp Q q => q _ (s.setD dp) fun vs h => wipe_set (h i List.mem_cons_self)
theorem xg_pair {i j : Nat} {x y : PyData} : XG K C (gTup K 2 (gCons (gName i) (gCons (gName j) gNil))) [i, j] (.tuple [x, y]) Γ ((Γ.set i (.dat x)).set j (.dat y)) := fun H0 R H σ v s w dp Q q => by
  cases dp with
  | tup hq ha =>
    cases ha with
    | cons a1 a2 =>
      cases a2 with
      | cons a3 a4 =>
        cases a4
        refine ⟨_, _, rfl, sqT_up w.sub hq, rfl, _, _, rfl, _, _, rfl, rfl, q _ ((s.setD a1).setD a3) fun vs h => ?_⟩
        rw [wipe_set (h j (by simp)), wipe_set (h i (by simp))]
theorem xg_trip {i j k : Nat} {x y z : PyData} : XG K C (gTup K 3 (gCons (gName i) (gCons (gName j) (gCons (gName k) gNil)))) [i, j, k] (.tuple [x, y, z]) Γ (((Γ.set i (.dat x)).set j (.dat y)).set k (.dat z)) := fun H0 R H σ v s w dp Q q => by
  cases dp with
  | tup hq ha =>
    cases ha with
    | cons a1 a2 =>
      cases a2 with
      | cons a3 a4 =>
        cases a4 with
        | cons a5 a6 =>
          cases a6
          refine ⟨_, _, rfl, sqT_up w.sub hq, rfl, _, _, rfl, _, _, rfl, _, _, rfl, rfl, q _ (((s.setD a1).setD a3).setD a5) fun vs h => ?_⟩
          rw [wipe_set (h k (by simp)), wipe_set (h j (by simp)), wipe_set (h i (by simp))]

/-! ### comprehensions -/
/-- what may come of a walk: T the tests' outcomes, E the elements -/
inductive LcR (T : PyData → Bool → Prop) (E : PyData → PyData → Prop) : List PyData → List PyData → Prop
  | nil : LcR T E [] []
  | skip {d ds es} : T d false → LcR T E ds es → LcR T E (d :: ds) es
  | keep {d ds e es} : T d true → E d e → LcR T E ds es → LcR T E (d :: ds) (e :: es)
theorem LcR.snocS {T : PyData → Bool → Prop} {E : PyData → PyData → Prop} {d : PyData} : ∀ {ds es : List PyData}, LcR T E ds es → T d false → LcR T E (ds ++ [d]) es
  | _, _, .nil, h => .skip h .nil
  | _, _, .skip a b, h => .skip a (LcR.snocS b h)
  | _, _, .keep a c b, h => .keep a c (LcR.snocS b h)
theorem LcR.snocK {T : PyData → Bool → Prop} {E : PyData → PyData → Prop} {d e : PyData} : ∀ {ds es : List PyData}, LcR T E ds es → T d true → E d e → LcR T E (ds ++ [d]) (es ++ [e])
  | _, _, .nil, h, k => .keep h k .nil
  | _, _, .skip a b, h, k => .skip a (LcR.snocK b h k)
  | _, _, .keep a c b, h, k => .keep a c (LcR.snocK b h k)
theorem LcR.len {T : PyData → Bool → Prop} {E : PyData → PyData → Prop} : ∀ {ds es : List PyData}, LcR T E ds es → es.length ≤ ds.length
  | _, _, .nil => Nat.le_refl _
  | _, _, .skip _ b => Nat.le_succ_of_le b.len
  | _, _, .keep _ _ b => Nat.succ_le_succ b.len
theorem LcR.det {t : PyData → Bool} {g : PyData → PyData} : ∀ {ds es : List PyData}, LcR (fun d b => b = t d) (fun d e => e = g d) ds es → es = (ds.filter t).map g
  | _, _, .nil => rfl
  | _, _, .skip a b => by
    rw [List.filter_cons, if_neg (by rw [← a]; decide)]
    exact b.det
  | _, _, .keep a c b => by
    rw [List.filter_cons, if_pos a.symm, List.map_cons, ← c, b.det]
theorem xok_lc {κ0 κt κe L : Nat} {wi : TI} {g : TG} {tt : TT} {te : TE} {vs js : List Nat} {PP : List PyData → Prop} {T : PyData → Bool → Prop} {E : PyData → PyData → Prop} {PE' : List PyData → Prop} (hi : XIk K C κ0 wi Γ PP) (hv : ∀ v, v ∈ vs → Γ[v]? = some .unk) (hj : ∀ j, j ∈ js → j ∈ vs) (hl : ∀ ds, PP ds → ds.length ≤ 100000) (hL : ∀ ds, PP ds → ds.length ≤ L)
    (hb : ∀ ds d c, PP ds → d ∈ ds → c + (κt + κe) ≤ κ0 + L * (κt + κe) → ∃ Γ', XG K C g js d (bmp c Γ) Γ' ∧ XTk K C κt tt Γ' (T d) ∧ (T d true → XDk K C κe te (bmp κt Γ') (E d))) (hp : ∀ ds es, PP ds → LcR T E ds es → PE' es) : XOk K C (κ0 + L * (κt + κe)) (tLc wi g tt te vs) Γ PE' := fun H0 R H σ s w Q q =>
  hi H0 R H σ s w _ fun J ds R1 H1 s1 wk pp D hD => by
    have nD : D ∉ C.M := s1.w.nm hD
    have rD : R1 D = none := s1.w.sub.free hD
    have lL := hL ds pp
    generalize hκ : κt + κe = κ at hb q ⊢
    -- the list at D is nobody's: it stays while others step
    have keepD : ∀ {c : Nat} {Ra Rb Ha Hb : Hp} {xs : List V}, StK C c Ra Ha Rb Hb → Ra D = none → Ha D = some (.lst xs) → Rb D = none ∧ Hb D = some (.lst xs) := fun {c Ra Rb Ha Hb xs} st h1 h2 => by
      refine ⟨?_, st.k D _ nD h2⟩
      cases e : Rb D with
      | none => rfl
      | some o =>
        rcases st.n D (by rw [e]; exact fun z => nomatch z) with z | z
        · exact absurd h1 z
        · rw [h2] at z
          cases z
    refine ⟨fun i m H' => m = ds.length - i ∧ i ≤ ds.length ∧ ∃ (R' : Hp) (xs : List V) (es : List PyData), StK C (i * κ) R1 H1 R' H' ∧ R' D = none ∧ H' D = some (.lst xs) ∧ DqAll K R' xs es ∧ LcR T E (ds.take i) es,
      ⟨ds.length, by simp, Nat.zero_le _, R1, [], [], (Stp.out s1.w hD).le (Nat.zero_le _), rD, upd_same, .nil, by rw [List.take_zero]; exact .nil⟩, ?_⟩
    rintro i m H' ⟨rfl, hin, R', xs, es, st, rD', hD', dp, lr⟩
    have wki := wk i R' H' st.r st.w
    by_cases hlt : i < ds.length
    · have hget : ds[i]? = some ds[i] := List.getElem?_eq_getElem hlt
      obtain ⟨hgo, hy⟩ := wki.1 _ hget
      have htake : ds.take (i + 1) = ds.take i ++ [ds[i]] := by
        rw [List.take_add_one, hget]
        rfl
      have lmul : (i + 1) * κ ≤ L * κ := Nat.mul_le_mul_right κ (by omega)
      have smul : (i + 1) * κ = i * κ + κ := by rw [Nat.add_mul, Nat.one_mul]
      refine .inr ⟨hgo, fun H'' => ∃ (R' : Hp) (xs : List V) (es : List PyData), StK C ((i + 1) * κ) R1 H1 R' H'' ∧ R' D = none ∧ H'' D = some (.lst xs) ∧ DqAll K R' xs es ∧ LcR T E (ds.take (i + 1)) es, fun H'' n => ⟨ds.length - (i + 1), by omega, rfl, hlt, n⟩, fun x H2 yl => ?_⟩
      obtain ⟨R2, st2, d2⟩ := hy x H2 yl
      obtain ⟨Γ', xg, xt, xd⟩ := hb ds ds[i] (κ0 + i * κ) pp (List.getElem_mem hlt) (by omega)
      have k2 := keepD st2 rD' hD'
      have s12 : StK C (κ0 + i * κ) R H R2 H2 := s1.trans (StK.trans st st2)
      have sd2 : SD K C H0 R2 H2 (L2.wipe σ vs) (bmp (κ0 + i * κ) Γ) := (s.stpK s12).wipe fun v hm => bmp_to (hv v hm) (fun n e => nomatch e)
      refine xg H0 R2 H2 (L2.wipe σ vs) x sd2 st2.w d2 _ fun σ' sd' wp => ⟨by rw [wp vs hj, wipe_wipe], ?_⟩
      refine xt H0 R2 H2 σ' sd' st2.w _ fun b R3 H3 st3 tb => ?_
      have k3 := keepD st3 k2.1 k2.2
      cases b with
      | false =>
        show ∃ (R' : Hp) (xs : List V) (es : List PyData), _
        refine ⟨R3, xs, es, ((st.trans st2).trans st3).le ?_, k3.1, k3.2, dps_up (st2.r.trans st3.r) dp, by rw [htake]; exact lr.snocS tb⟩
        omega
      | true =>
        show te σ' H3 _
        refine xd tb H0 R3 H3 σ' (sd'.stpK st3) st3.w _ fun y e R4 H4 st4 d4 ey => ?_
        have k4 := keepD st4 k3.1 k3.2
        have s4 : StK C ((i + 1) * κ) R1 H1 R4 H4 := (((st.trans st2).trans st3).trans st4).le (by omega)
        have dp4 := dps_up ((st2.r.trans st3.r).trans st4.r) dp
        refine ⟨xs, k4.2, ?_, R4, xs ++ [y], es ++ [e], ⟨⟨s4.r, s4.w.mut k4.1, fun a o na ha => ?_, s4.n⟩, fun n hn => C.fr _ _ _ (fun m hm => upd_ne fun e : m = D => nD (by rw [← e]; exact hm)) (s4.d n hn)⟩, k4.1, upd_same, dps_app dp4 (dps_one d4), by rw [htake]; exact lr.snocK tb ey⟩
        · rw [dps_len dp]
          have l1 := lr.len
          have l2 := hl ds pp
          rw [List.length_take] at l1
          exact Nat.lt_of_le_of_lt (show es.length ≤ 100000 by omega) (by decide)
        · rw [upd_ne (ne_of_none ha hD)]
          exact s4.k a o na ha
    · have e : i = ds.length := by omega
      subst e
      refine .inl ⟨wki.2 (Nat.le_refl _), q D xs es R' H' ((s1.trans st).le ?_) (s1.still hD) hD' dp rD' (hp ds es pp ?_)⟩
      · exact Nat.add_le_add_left (Nat.mul_le_mul_right κ lL) κ0
      · rw [List.take_length] at lr
        exact lr
theorem xo_lc {wi : TI} {g : TG} {tt : TT} {te : TE} {vs js : List Nat} {PP : List PyData → Prop} {T : PyData → Bool → Prop} {E : PyData → PyData → Prop} {PE' : List PyData → Prop} (hi : XI K C wi Γ PP) (hv : ∀ v, v ∈ vs → Γ[v]? = some .unk) (hj : ∀ j, j ∈ js → j ∈ vs) (hl : ∀ ds, PP ds → ds.length ≤ 100000)
    (hb : ∀ ds d, PP ds → d ∈ ds → ∃ Γ', XG K C g js d Γ Γ' ∧ XT K C tt Γ' (T d) ∧ (T d true → XD K C te Γ' (E d))) (hp : ∀ ds es, PP ds → LcR T E ds es → PE' es) : XO K C (tLc wi g tt te vs) Γ PE' :=
  xok_lc (κ0 := 0) (κt := 0) (κe := 0) (L := 100000) hi hv hj hl hl (fun ds d c pp hd hc => by
    obtain rfl : c = 0 := by omega
    obtain ⟨Γ', h1, h2, h3⟩ := hb ds d pp hd
    exact ⟨Γ', by rw [bmp_zero]; exact h1, h2, fun z => by rw [bmp_zero]; exact h3 z⟩) hp
/-- the same, all told -/
theorem xo_lc1 {wi : TI} {g : TG} {tt : TT} {te : TE} {vs js : List Nat} {ds : List PyData} {t : PyData → Bool} {f : PyData → PyData} (hi : XI K C wi Γ (· = ds)) (hv : ∀ v, v ∈ vs → Γ[v]? = some .unk) (hj : ∀ j, j ∈ js → j ∈ vs) (hl : ds.length ≤ 100000)
    (hb : ∀ d, d ∈ ds → ∃ Γ', XG K C g js d Γ Γ' ∧ XT K C tt Γ' (· = t d) ∧ (t d = true → XD K C te Γ' (· = f d))) : XO K C (tLc wi g tt te vs) Γ (· = (ds.filter t).map f) :=
  xo_lc (T := fun d b => b = t d) (E := fun d e => e = f d) hi hv hj (fun _ e => by rw [e]; exact hl) (fun ds' d e hd => by
    subst e
    obtain ⟨Γ', h1, h2, h3⟩ := hb d hd
    exact ⟨Γ', h1, h2, fun z => h3 z.symm⟩) fun ds' es e lr => by
    subst e
    exact lr.det
theorem xt_yes : XT K C tYes Γ (· = true) := fun H0 R H σ s w Q q => q true R H (.refl w) rfl

/-! ### for -/
theorem xsk_for {κ : Nat} {wi : TI} {g : TG} {tb : TS} {js : List Nat} {PP : List PyData → Prop} {N B Ct : List Ent → Prop} {Rt : Ent → List Ent → Prop} (hi : XIk K C κ wi Γ PP) (I : List PyData → Nat → List Ent → Prop) (h0 : ∀ ds, PP ds → I ds 0 (bmp κ Γ))
    (hb : ∀ ds i d Γ1, PP ds → ds[i]? = some d → I ds i Γ1 → ∃ Γ2, XG K C g js d Γ1 Γ2 ∧ XS K C tb Γ2 (I ds (i + 1)) Rt N (I ds (i + 1))) (hd : ∀ ds Γ1, PP ds → I ds ds.length Γ1 → N Γ1) : XS K C (tFor wi g tb) Γ N Rt B Ct := fun H0 R0 H R σ D a n r b c =>
  hi H0 R H σ a.d a.s.w _ fun J ds R1 H1 s1 wk pp => by
    refine ⟨fun i m σ' H' => m = ds.length - i ∧ i ≤ ds.length ∧ ∃ R' Γ1, Same R1 R' ∧ At K C H0 R0 H' R' σ' Γ1 ∧ I ds i Γ1, ⟨ds.length, by simp, Nat.zero_le _, R1, _, .refl R1, a.stpK s1, h0 ds pp⟩, ?_⟩
    rintro i m σ' H' ⟨rfl, hin, R', Γ1, sm, at1, inv⟩
    have wki := wk i R' H' sm at1.s.w
    by_cases hlt : i < ds.length
    · have hget : ds[i]? = some ds[i] := List.getElem?_eq_getElem hlt
      obtain ⟨hgo, hy⟩ := wki.1 _ hget
      refine .inr ⟨hgo, fun σ'' H'' => ∃ R' Γ1, Same R1 R' ∧ At K C H0 R0 H'' R' σ'' Γ1 ∧ I ds (i + 1) Γ1, fun σ'' H'' nn => ⟨ds.length - (i + 1), by omega, rfl, hlt, nn⟩, fun x H2 yl => ?_⟩
      obtain ⟨R2, st2, d2⟩ := hy x H2 yl
      obtain ⟨Γ2, xg, xs⟩ := hb ds i ds[i] Γ1 pp hget inv
      have at2 : At K C H0 R0 H2 R2 σ' Γ1 := at1.stp st2
      refine xg H0 R2 H2 σ' x at2.d at2.s.w d2 _ fun σ2 sd2 _ => ?_
      refine xs H0 R0 H2 R2 σ2 _ ⟨at2.s, sd2⟩ (fun σ3 H3 R3 Γ3 iv sm3 at3 => ⟨R3, Γ3, (sm.trans st2.r).trans sm3, at3, iv⟩) r (fun σ3 H3 R3 Γ3 iv sm3 at3 => n σ3 H3 R3 Γ3 iv (s1.r.trans ((sm.trans st2.r).trans sm3)) at3) fun σ3 H3 R3 Γ3 iv sm3 at3 => ⟨R3, Γ3, (sm.trans st2.r).trans sm3, at3, iv⟩
    · have e : i = ds.length := by omega
      subst e
      exact .inl ⟨wki.2 (Nat.le_refl _), n σ' H' R' Γ1 (hd ds Γ1 pp inv) (s1.r.trans sm) at1⟩
theorem xs_for {wi : TI} {g : TG} {tb : TS} {js : List Nat} {PP : List PyData → Prop} {N B Ct : List Ent → Prop} {Rt : Ent → List Ent → Prop} (hi : XI K C wi Γ PP) (I : List PyData → Nat → List Ent → Prop) (h0 : ∀ ds, PP ds → I ds 0 Γ)
    (hb : ∀ ds i d Γ1, PP ds → ds[i]? = some d → I ds i Γ1 → ∃ Γ2, XG K C g js d Γ1 Γ2 ∧ XS K C tb Γ2 (I ds (i + 1)) Rt N (I ds (i + 1))) (hd : ∀ ds Γ1, PP ds → I ds ds.length Γ1 → N Γ1) : XS K C (tFor wi g tb) Γ N Rt B Ct := xsk_for hi I (fun ds p => by
  rw [bmp_zero]
  exact h0 ds p) hb hd
/-- while: I with a number that falls -/
theorem xs_while {t : TT} {tb : TS} {N B Ct : List Ent → Prop} {Rt : Ent → List Ent → Prop} {Bp : List Ent → Bool → Prop} (I : Nat → List Ent → Prop) (m0 : Nat) (h0 : I m0 Γ) (ht : ∀ m Γ1, I m Γ1 → XT K C t Γ1 (Bp Γ1))
    (hb : ∀ m Γ1, I m Γ1 → Bp Γ1 true → XS K C tb Γ1 (fun Γ2 => ∃ m', m' < m ∧ I m' Γ2) Rt N (fun Γ2 => ∃ m', m' < m ∧ I m' Γ2)) (hd : ∀ m Γ1, I m Γ1 → Bp Γ1 false → N Γ1) : XS K C (tWhile t tb) Γ N Rt B Ct := fun H0 R0 H R σ D a n r b c => by
  refine ⟨fun m σ' H' => ∃ R' Γ1, Same R R' ∧ At K C H0 R0 H' R' σ' Γ1 ∧ I m Γ1, ⟨m0, R, Γ, .refl R, a, h0⟩, ?_⟩
  rintro m σ' H' ⟨R', Γ1, sm, at1, inv⟩
  refine ht m Γ1 inv H0 R' H' σ' at1.d at1.s.w _ fun k R1 H1 s1 bp => ?_
  cases k with
  | false => exact n σ' H1 R1 Γ1 (hd m Γ1 inv bp) (sm.trans s1.r) (at1.stp s1)
  | true =>
    refine ⟨fun σ2 H2 => ∃ R2 Γ2, Same R R2 ∧ At K C H0 R0 H2 R2 σ2 Γ2 ∧ ∃ m', m' < m ∧ I m' Γ2, fun σ2 H2 ⟨R2, Γ2, s2, a2, m', l, i2⟩ => ⟨m', l, R2, Γ2, s2, a2, i2⟩, ?_⟩
    exact hb m Γ1 inv bp H0 R0 H1 R1 σ' _ (at1.stp s1) (fun σ2 H2 R2 Γ2 iv s2 a2 => ⟨R2, Γ2, (sm.trans s1.r).trans s2, a2, iv⟩) r (fun σ2 H2 R2 Γ2 iv s2 a2 => n σ2 H2 R2 Γ2 iv ((sm.trans s1.r).trans s2) a2) fun σ2 H2 R2 Γ2 iv s2 a2 => ⟨R2, Γ2, (sm.trans s1.r).trans s2, a2, iv⟩

/-! ### lists of one's own -/
/-- xs.append(e) -/
theorem xsk_append {κ i : Nat} {te : TE} {ds : List PyData} {P : PyData → Prop} {N B Ct : List Ent → Prop} {Rt : Ent → List Ent → Prop} (h : Γ[i]? = some (.own ds)) (he : XDk K C κ te Γ P) (hl : ds.length < 1000000) (hn : ∀ d, P d → N ((bmp κ Γ).set i (.own (ds ++ [d])))) :
    XS K C (tDrop (tBM K "list" rAppend (tVar i) (tCons te tNil))) Γ N Rt B Ct := fun H0 R0 H R σ D a n r b c => by
  obtain ⟨v, h1, p, xs, rfl, g1, g2, g3, g4, nm⟩ := a.d.get h (fun z => nomatch z)
  refine ⟨_, h1, .inl ⟨rfl, _, .inl (.inl g1)⟩, ?_⟩
  refine he H0 R H σ a.d a.s.w _ fun w d R1 H1 s1 d1 pd => ?_
  have k1 : H1 p = some (.lst xs) := s1.k p _ nm g1
  have a1 := a.stpK s1
  have hb : (bmp κ Γ)[i]? = some (.own ds) := bmp_to h (fun n e => nomatch e)
  obtain ⟨v', h1', p', xs', e', g1', g2', g3', g4'⟩ := a1.d.get hb (fun z => nomatch z)
  rw [h1] at h1'
  cases h1'
  cases e'
  refine ⟨p, xs, w, rfl, rfl, k1, ?_, ?_⟩
  · rw [dps_len g2]
    exact Nat.lt_of_lt_of_le hl (by decide)
  · have sd := a1.d.mut hb h1 (dps_app (dps_up s1.r g2) (dps_one d1))
    refine n σ _ R1 _ (hn d pd) s1.r ⟨⟨a1.s.r, a1.s.w.mut g3', fun x o hx hh => ?_, a1.s.n⟩, sd⟩
    rw [upd_ne (ne_of_none hh g4)]
    exact a1.s.k x o hx hh
theorem xs_append {i : Nat} {te : TE} {ds : List PyData} {P : PyData → Prop} {N B Ct : List Ent → Prop} {Rt : Ent → List Ent → Prop} (h : Γ[i]? = some (.own ds)) (he : XD K C te Γ P) (hl : ds.length < 1000000) (hn : ∀ d, P d → N (Γ.set i (.own (ds ++ [d])))) :
    XS K C (tDrop (tBM K "list" rAppend (tVar i) (tCons te tNil))) Γ N Rt B Ct := xsk_append h he hl fun d p => by
  rw [bmp_zero]
  exact hn d p
end
end DL

/-! DLd: judgements of the syntax itself: what an expression, a block gives, in data. -/
namespace DL
open PySem PySem.Spec PyProof.Rows L2

section
variable {ι : Type} (𝒳 : ι → Cx)
/-- the weakest reading: some reading that all contexts of the family have -/
def stE (e : Expr) : TE := fun σ H Q => ∃ te : TE, (∀ i, PE (𝒳 i) e te) ∧ te σ H Q
def stT (e : Expr) : TT := fun σ H Q => ∃ te : TT, (∀ i, PT (𝒳 i) e te) ∧ te σ H Q
def stW (e : Expr) : TT := fun σ H Q => ∃ te : TT, (∀ i, PW (𝒳 i) e te) ∧ te σ H Q
def stTs (es : List Expr) : TT := fun σ H Q => ∃ te : TT, (∀ i, PTs (𝒳 i) es te) ∧ te σ H Q
def stA (es : List Expr) : TA := fun σ H Q => ∃ te : TA, (∀ i, PA (𝒳 i) es te) ∧ te σ H Q
def stK (es : List Keyword) : TA := fun σ H Q => ∃ te : TA, (∀ i, PK (𝒳 i) es te) ∧ te σ H Q
def stO (e : Option Expr) : TO := fun σ H Q => ∃ te : TO, (∀ i, PO (𝒳 i) e te) ∧ te σ H Q
def stI (tg e : Expr) : TI := fun σ H Q => ∃ te : TI, (∀ i, PI (𝒳 i) tg e te) ∧ te σ H Q
def stG (e : Expr) : TG := fun v σ H Q => ∃ te : TG, (∀ i, PG (𝒳 i) e te) ∧ te v σ H Q
def stS (st : Stmt) : TS := fun D σ H => ∃ te : TS, (∀ i, PS (𝒳 i) st te) ∧ te D σ H
def stSs (ss : List Stmt) : TS := fun D σ H => ∃ te : TS, (∀ i, PSs (𝒳 i) ss te) ∧ te D σ H
end
section
variable {ι : Type} {𝒳 : ι → Cx} {e tg : Expr} {es : List Expr} {st : Stmt} {ss : List Stmt} {kws : List Keyword} {oe : Option Expr}
theorem stE_ok (i : ι) : PE (𝒳 i) e (stE 𝒳 e) := ⟨fun p s σ H Q I ⟨_, h, q⟩ => (h i).run p s σ H Q I q⟩
theorem stT_ok (i : ι) : PT (𝒳 i) e (stT 𝒳 e) := ⟨fun p s σ H Q I ⟨_, h, q⟩ => (h i).run p s σ H Q I q⟩
theorem stW_ok (i : ι) : PW (𝒳 i) e (stW 𝒳 e) := ⟨fun w p s σ H Q I ⟨_, h, q⟩ => (h i).run w p s σ H Q I q⟩
theorem stTs_ok (i : ι) : PTs (𝒳 i) es (stTs 𝒳 es) := ⟨fun p s σ H Q I ⟨_, h, q⟩ => (h i).run p s σ H Q I q⟩
theorem stA_ok (i : ι) : PA (𝒳 i) es (stA 𝒳 es) := ⟨fun w p s σ H Q I ⟨_, h, q⟩ => (h i).run w p s σ H Q I q⟩
theorem stK_ok (i : ι) : PK (𝒳 i) kws (stK 𝒳 kws) := ⟨fun w p s σ H Q I ⟨_, h, q⟩ => (h i).run w p s σ H Q I q⟩
theorem stO_ok (i : ι) : PO (𝒳 i) oe (stO 𝒳 oe) := ⟨fun p s σ H Q I ⟨_, h, q⟩ => (h i).run p s σ H Q I q⟩
theorem stI_ok (i : ι) : PI (𝒳 i) tg e (stI 𝒳 tg e) := ⟨fun p s σ H Q I ⟨_, h, q⟩ => (h i).run p s σ H Q I q⟩
theorem stG_ok (i : ι) : PG (𝒳 i) e (stG 𝒳 e) := ⟨fun p s σ H v u Q I r ⟨_, h, q⟩ => (h i).run p s σ H v u Q I r q⟩
theorem stS_ok (i : ι) : PS (𝒳 i) st (stS 𝒳 st) := ⟨fun p s σ H Q I ⟨_, h, q⟩ => (h i).run p s σ H Q I q⟩
theorem stSs_ok (i : ι) : PSs (𝒳 i) ss (stSs 𝒳 ss) := ⟨fun p s σ H Q I ⟨_, h, q⟩ => (h i).run p s σ H Q I q⟩
end
section
variable {ι : Type} (𝒳 : ι → Cx) (K : PySem.W.Frag) (C : Ctx)
/-- e gives data of which P is true -/
abbrev J (e : Expr) (Γ : List Ent) (P : PyData → Prop) : Prop := XD K C (stE 𝒳 e) Γ P
abbrev JD (e : Expr) (Γ : List Ent) (d : PyData) : Prop := XD K C (stE 𝒳 e) Γ (· = d)
/-- a new list -/
abbrev JO (e : Expr) (Γ : List Ent) (P : List PyData → Prop) : Prop := XO K C (stE 𝒳 e) Γ P
abbrev JT (e : Expr) (Γ : List Ent) (B : Bool → Prop) : Prop := XT K C (stT 𝒳 e) Γ B
abbrev JW (e : Expr) (Γ : List Ent) (B : Bool → Prop) : Prop := XT K C (stW 𝒳 e) Γ B
abbrev JTs (es : List Expr) (Γ : List Ent) (B : Bool → Prop) : Prop := XT K C (stTs 𝒳 es) Γ B
abbrev JA (es : List Expr) (Γ : List Ent) (P : List Ent → Prop) : Prop := XA K C (stA 𝒳 es) Γ P
abbrev JK (kws : List Keyword) (Γ : List Ent) (P : List Ent → Prop) : Prop := XA K C (stK 𝒳 kws) Γ P
abbrev JI (tg e : Expr) (Γ : List Ent) (P : List PyData → Prop) : Prop := XI K C (stI 𝒳 tg e) Γ P
abbrev JG (tg : Expr) (js : List Nat) (d : PyData) (Γ Γ' : List Ent) : Prop := XG K C (stG 𝒳 tg) js d Γ Γ'
abbrev J1 (st : Stmt) (Γ : List Ent) (N : List Ent → Prop) (Rt : Ent → List Ent → Prop) (B Ct : List Ent → Prop) : Prop := XS K C (stS 𝒳 st) Γ N Rt B Ct
abbrev JS (ss : List Stmt) (Γ : List Ent) (N : List Ent → Prop) (Rt : Ent → List Ent → Prop) (B Ct : List Ent → Prop) : Prop := XS K C (stSs 𝒳 ss) Γ N Rt B Ct
abbrev Jk (κ : Nat) (e : Expr) (Γ : List Ent) (P : PyData → Prop) : Prop := XDk K C κ (stE 𝒳 e) Γ P
abbrev JOk (κ : Nat) (e : Expr) (Γ : List Ent) (P : List PyData → Prop) : Prop := XOk K C κ (stE 𝒳 e) Γ P
abbrev JTk (κ : Nat) (e : Expr) (Γ : List Ent) (B : Bool → Prop) : Prop := XTk K C κ (stT 𝒳 e) Γ B
abbrev JWk (κ : Nat) (e : Expr) (Γ : List Ent) (B : Bool → Prop) : Prop := XTk K C κ (stW 𝒳 e) Γ B
abbrev JAk (κ : Nat) (es : List Expr) (Γ : List Ent) (P : List Ent → Prop) : Prop := XAk K C κ (stA 𝒳 es) Γ P
abbrev JKk (κ : Nat) (kws : List Keyword) (Γ : List Ent) (P : List Ent → Prop) : Prop := XAk K C κ (stK 𝒳 kws) Γ P
abbrev JIk (κ : Nat) (tg e : Expr) (Γ : List Ent) (P : List PyData → Prop) : Prop := XIk K C κ (stI 𝒳 tg e) Γ P
/-- an optional part of a slice -/
def XP (to : TO) (Γ : List Ent) (o : Option Int) : Prop := ∀ H0 R H σ, SD K C H0 R H σ Γ → Wd C R H → ∀ Q : Option Int → Hp → Prop, (∀ R' H', Stp C R H R' H' → Q o H') → to σ H Q
abbrev JP (oe : Option Expr) (Γ : List Ent) (o : Option Int) : Prop := XP K C (stO 𝒳 oe) Γ o
end
/-- what a family of contexts has in common -/
structure Fam {ι : Type} (𝒳 : ι → Cx) (P : Program) (w : World) (K : PySem.W.Frag) (mg : Str → Option Value) (base : Heap) (k : Nat) : Prop where
  pr : ∀ i, (𝒳 i).prog = P
  wd : ∀ i, (𝒳 i).w = w
  K : ∀ i, (𝒳 i).K = K
  mg : ∀ i, (𝒳 i).mg = mg
  bs : ∀ i, (𝒳 i).base = base
  rm : ∀ i, Room k (𝒳 i).A
  gd : ∀ i, (𝒳 i).A.guards = some []
  cm : ∀ i, (𝒳 i).calm = true
  nd : ∀ i, (𝒳 i).N.Nodup
  nv : ∀ i, PassesOwn (model (𝒳 i).prog (𝒳 i).w) (𝒳 i).A (𝒳 i).env (𝒳 i).xe
/-- the contexts of a comprehension's block -/
def blkF {ι : Type} (𝒳 : ι → Cx) (scope : Scope) : ι × Shared × Hp × Addr × List (Str × Addr) × List Addr → Cx := fun j => (𝒳 j.1).blk j.2.1 j.2.2.1 scope (compEnvC scope j.2.2.2.2.1 j.2.2.2.1 (𝒳 j.1).env) j.2.2.2.2.2
section
variable {ι : Type} {𝒳 : ι → Cx} {P : Program} {w : World} {K : PySem.W.Frag} {mg : Str → Option Value} {base : Heap} {k j κ κ' : Nat} {C : Ctx} {Γ : List Ent} {e a b c tg : Expr} {es : List Expr} {st : Stmt} {ss : List Stmt} {pos : Pos} {PP : PyData → Prop} {d x y : PyData}
theorem Fam.blk (F : Fam 𝒳 P w K mg base k) (scope : Scope) : Fam (blkF 𝒳 scope) P w K mg base k :=
  ⟨fun i => F.pr i.1, fun i => F.wd i.1, fun i => F.K i.1, fun i => F.mg i.1, fun i => F.bs i.1, fun i => F.rm i.1, fun i => F.gd i.1, fun i => F.cm i.1, fun i => F.nd i.1, fun _ => PassesOwn.never⟩
theorem Fam.le (F : Fam 𝒳 P w K mg base k) (h : j ≤ k) : Fam 𝒳 P w K mg base j := ⟨F.pr, F.wd, F.K, F.mg, F.bs, fun i => (F.rm i).mono h, F.gd, F.cm, F.nd, F.nv⟩

/-! ### from a reading -/
theorem J.of {te : TE} (h : ∀ i, PE (𝒳 i) e te) (x : XDk K C κ te Γ PP) : XDk K C κ (stE 𝒳 e) Γ PP := fun H0 R H σ s w Q q => ⟨te, h, x H0 R H σ s w Q q⟩
theorem JO.of {te : TE} {PO : List PyData → Prop} (h : ∀ i, PE (𝒳 i) e te) (x : XOk K C κ te Γ PO) : XOk K C κ (stE 𝒳 e) Γ PO := fun H0 R H σ s w Q q => ⟨te, h, x H0 R H σ s w Q q⟩
theorem JT.of {te : TT} {B : Bool → Prop} (h : ∀ i, PT (𝒳 i) e te) (x : XTk K C κ te Γ B) : XTk K C κ (stT 𝒳 e) Γ B := fun H0 R H σ s w Q q => ⟨te, h, x H0 R H σ s w Q q⟩
theorem JW.of {te : TT} {B : Bool → Prop} (h : ∀ i, PW (𝒳 i) e te) (x : XTk K C κ te Γ B) : XTk K C κ (stW 𝒳 e) Γ B := fun H0 R H σ s w Q q => ⟨te, h, x H0 R H σ s w Q q⟩
theorem JTs.of {te : TT} {B : Bool → Prop} (h : ∀ i, PTs (𝒳 i) es te) (x : XTk K C κ te Γ B) : XTk K C κ (stTs 𝒳 es) Γ B := fun H0 R H σ s w Q q => ⟨te, h, x H0 R H σ s w Q q⟩
theorem JA.of {te : TA} {PA' : List Ent → Prop} (h : ∀ i, PA (𝒳 i) es te) (x : XAk K C κ te Γ PA') : XAk K C κ (stA 𝒳 es) Γ PA' := fun H0 R H σ s w Q q => ⟨te, h, x H0 R H σ s w Q q⟩
theorem JK.of {kws : List Keyword} {te : TA} {PA' : List Ent → Prop} (h : ∀ i, PK (𝒳 i) kws te) (x : XAk K C κ te Γ PA') : XAk K C κ (stK 𝒳 kws) Γ PA' := fun H0 R H σ s w Q q => ⟨te, h, x H0 R H σ s w Q q⟩
theorem JI.of {te : TI} {PI' : List PyData → Prop} (h : ∀ i, PI (𝒳 i) tg e te) (x : XIk K C κ te Γ PI') : XIk K C κ (stI 𝒳 tg e) Γ PI' := fun H0 R H σ s w Q q => ⟨te, h, x H0 R H σ s w Q q⟩
theorem JG.of {te : TG} {js : List Nat} {Γ' : List Ent} (h : ∀ i, PG (𝒳 i) tg te) (x : XG K C te js d Γ Γ') : JG 𝒳 K C tg js d Γ Γ' := fun H0 R H σ v s w dp Q q => ⟨te, h, x H0 R H σ v s w dp Q q⟩
theorem J1.of {te : TS} {N B Ct : List Ent → Prop} {Rt : Ent → List Ent → Prop} (h : ∀ i, PS (𝒳 i) st te) (x : XS K C te Γ N Rt B Ct) : J1 𝒳 K C st Γ N Rt B Ct := fun H0 R0 H R σ D at' n r b c => ⟨te, h, x H0 R0 H R σ D at' n r b c⟩
theorem JS.of {te : TS} {N B Ct : List Ent → Prop} {Rt : Ent → List Ent → Prop} (h : ∀ i, PSs (𝒳 i) ss te) (x : XS K C te Γ N Rt B Ct) : JS 𝒳 K C ss Γ N Rt B Ct := fun H0 R0 H R σ D at' n r b c => ⟨te, h, x H0 R0 H R σ D at' n r b c⟩
theorem JP.of {oe : Option Expr} {o : Option Int} {te : TO} (h : ∀ i, PO (𝒳 i) oe te) (x : XP K C te Γ o) : JP 𝒳 K C oe Γ o := fun H0 R H σ s w Q q => ⟨te, h, x H0 R H σ s w Q q⟩

/-! ### names, constants -/
theorem j_name (i : Nat) {x : Str} {d : PyData} (h : Γ[i]? = some (.dat d) := by rfl) (hN : ∀ j, (𝒳 j).N[i]? = some x := by intro _; rfl) (hv : ∀ j, Vis (𝒳 j).env.scope x := by intro _; first | exact Or.inl rfl | exact Or.inr (Or.inl rfl) | exact Or.inr (Or.inr rfl))
    (hd : (x == ("__debug__" : Str)) = false := by decide) (hcd : (x == ("__classdict__" : Str)) = false := by decide) : JD 𝒳 K C (.Name x pos) Γ d := J.of (fun j => pe_var (hN j) (hv j) hd hcd) (xd_var h)
theorem j_int {i : Int} {n : Nat} : JD 𝒳 K C (.Constant (.int i) n pos) Γ (.int i) := J.of (fun _ => pe_int) xd_int
theorem j_str {x : Str} {n : Nat} : JD 𝒳 K C (.Constant (.str x) n pos) Γ (.str x) := J.of (fun _ => pe_str) xd_str
theorem j_bl {b : Bool} {n : Nat} : JD 𝒳 K C (.Constant (.bool b) n pos) Γ (.bool b) := J.of (fun _ => pe_bl) xd_bl
theorem j_non {n : Nat} : JD 𝒳 K C (.Constant .none n pos) Γ .none := J.of (fun _ => pe_non) xd_non
/-- a name of the module's with a plain value -/
theorem j_glob {x : Str} {v : V} {u : Value} (F : Fam 𝒳 P w K mg base k) (hm : mg x = some u) (r : RelV v u) (h : ∀ R, Dq K R v d) (hg : ∀ i, Gl (𝒳 i) x := by intro _; rfl) (hd : (x == ("__debug__" : Str)) = false := by decide) : JD 𝒳 K C (.Name x pos) Γ d :=
  J.of (te := tC v) (fun i => pe_glob (hg i) (by rw [F.mg i]; exact hm) r hd) fun _ R H _ _ w _ q => q _ _ R H (.refl w) (h R) rfl

/-! ### binary operators -/
theorem cat_listR {X : Cx} : OpR X (binaryOp .Add) (fun x y H Q => ∃ l b xs zs, x = .ref l ∧ y = .ref b ∧ Rd H l (.lst xs) ∧ Rd H b (.lst zs) ∧ xs.length + zs.length ≤ sizeLine ∧ ∀ p, H p = none → Q (.ref p) (upd H p (.lst (xs ++ zs)))) := by
  intro pins s σ H x y v u Q I rx ry h
  obtain ⟨l, b, xs, zs, rfl, rfl, hH, hB, hz, q⟩ := h
  cases rx
  cases ry
  obtain ⟨z, its, n, r, o1⟩ := hH.ok I.hok
  obtain ⟨z2, its2, n2, r2, o2⟩ := hB.ok I.hok
  have l1 := r.length
  have l2 := r2.length
  refine PySem.P.add_list o1 o2 ?_ (by rw [List.size_toArray, List.size_toArray]; omega)
  have ea : its.toArray ++ its2.toArray = (its ++ its2).toArray := by simp
  rw [ea]
  exact ⟨.ref _, _, I.lnew (t' := s.toks) (r.append r2) (by rw [List.length_append]; omega), rfl, q _ I.fresh⟩
/-- what two data give by an operator -/
inductive BinD : Operator → PyData → PyData → PyData → Prop
  | addI (i j : Int) : BinD .Add (.int i) (.int j) (.int (i + j))
  | subI (i j : Int) : BinD .Sub (.int i) (.int j) (.int (i - j))
  | mulI (i j : Int) : CMul i j → BinD .Mult (.int i) (.int j) (.int (i * j))
  | fdivI (i j : Int) : CDivN i j → BinD .FloorDiv (.int i) (.int j) (.int (i.fdiv j))
  | modI (i j : Int) : j ≠ 0 → BinD .Mod (.int i) (.int j) (.int (i.fmod j))
  | powI (i j : Int) : CPow i j → BinD .Pow (.int i) (.int j) (.int (i ^ j.toNat))
  | addS (x y : Str) : x.length + y.length ≤ sizeLine → BinD .Add (.str x) (.str y) (.str (x ++ y))
  | addT (xs ys : List PyData) : xs.length + ys.length ≤ sizeLine → BinD .Add (.tuple xs) (.tuple ys) (.tuple (xs ++ ys))
  | addL (xs ys : List PyData) : xs.length + ys.length ≤ sizeLine → BinD .Add (.list xs) (.list ys) (.list (xs ++ ys))
theorem BinD.rule {op : Operator} (F : Fam 𝒳 P w K mg base k) (h : BinD op x y d) : ∃ r : R2, (∀ i, OpR (𝒳 i) (binaryOp op) r) ∧ Op2 K C r x y (· = d) := by
  have go : ∀ {r : R2}, (∀ i, OpR (𝒳 i) (binaryOp op) r) → Op2 K C r x y (· = d) → ∃ r : R2, (∀ i, OpR (𝒳 i) (binaryOp op) r) ∧ Op2 K C r x y (· = d) := fun ho hr => ⟨_, ho, hr⟩
  cases h with
  | addI i j => exact go (fun _ => op_add) (op2_I0 fun _ => .int _)
  | subI i j => exact go (fun _ => op_sub) (op2_I0 fun _ => .int _)
  | mulI i j h => exact go (fun _ => op_mul) (op2_I h fun _ => .int _)
  | fdivI i j h => exact go (fun _ => op_fdivN) (op2_I h fun _ => .int _)
  | modI i j h => exact go (fun _ => op_modN) (op2_I h fun _ => .int _)
  | powI i j h => exact go (fun _ => op_pow) (op2_I h fun _ => .int _)
  | addS i j h =>
    exact go (fun _ => op_add_str) fun R H u v w hu hv Q q => by
      cases hu
      cases hv
      exact ⟨i, j, rfl, rfl, h, q _ _ R H (.refl w) (.str _) rfl⟩
  | addT xs ys h =>
    exact go (fun i => by have z := op_catA (X := 𝒳 i); rw [F.K i] at z; exact z) fun R H u v w hu hv Q q => by
      cases hu with
      | @tup _ us _ h1 a1 =>
        cases hv with
        | @tup _ vs _ h2 a2 =>
          refine ⟨_, _, _, _, rfl, rfl, sqT_up w.sub h1, sqT_up w.sub h2, by rw [dps_len a1, dps_len a2]; exact h, fun e => ?_, fun _ e => ?_, fun _ _ p hp => ?_⟩
          · subst e
            cases a1
            exact q _ _ R H (.refl w) (.tup h2 a2) rfl
          · subst e
            cases a2
            rw [List.append_nil] at q
            exact q _ _ R H (.refl w) (.tup h1 a1) rfl
          · have st := Stp.new w (p := p) (o := .tup (us ++ vs)) hp
            exact q _ _ _ _ st (.tup (.inl (.inl upd_same)) (dps_app (dps_up st.r a1) (dps_up st.r a2))) rfl
  | addL xs ys h =>
    exact go (fun _ => cat_listR) fun R H u v w hu hv Q q => by
      cases hu with
      | @lst _ us _ h1 a1 =>
        cases hv with
        | @lst _ vs _ h2 a2 =>
          refine ⟨_, _, _, _, rfl, rfl, rd_up w.sub h1, rd_up w.sub h2, by rw [dps_len a1, dps_len a2]; exact h, fun p hp => ?_⟩
          have st := Stp.new w (p := p) (o := .lst (us ++ vs)) hp
          exact q _ _ _ _ st (.lst (.inl upd_same) (dps_app (dps_up st.r a1) (dps_up st.r a2))) rfl
theorem j_bin {op : Operator} (F : Fam 𝒳 P w K mg base k) (ha : JD 𝒳 K C a Γ x) (hb : JD 𝒳 K C b Γ y) (h : BinD op x y d) : JD 𝒳 K C (.BinOp a op b pos) Γ d := by
  obtain ⟨r, ho, hr⟩ := h.rule (C := C) F
  exact J.of (fun i => pe_op (ho i) (stE_ok i) (stE_ok i)) (xd_op1 ha hb hr)
/-- operands of which not all is known -/
theorem jk_binP {op : Operator} {Pa : PyData → Prop} {Pb : PyData → PyData → Prop} (F : Fam 𝒳 P w K mg base k) (ha : Jk 𝒳 K C κ a Γ Pa) (hb : ∀ x, Pa x → Jk 𝒳 K C κ' b (bmp κ Γ) (Pb x)) (h : ∀ x y, Pa x → Pb x y → ∃ z, BinD op x y z ∧ PP z) : Jk 𝒳 K C (κ + κ') (.BinOp a op b pos) Γ PP := fun H0 R H σ s w Q q =>
  ⟨tOp (fun x y H Q => ∃ rr : R2, (∀ i, OpR (𝒳 i) (binaryOp op) rr) ∧ rr x y H Q) (stE 𝒳 a) (stE 𝒳 b), fun i => pe_op (fun pins s σ H x y v u Q I rx ry ⟨rr, h1, h2⟩ => h1 i pins s σ H x y v u Q I rx ry h2) (stE_ok i) (stE_ok i),
    xdk_op (P := PP) ha hb (fun x y px py R H u v w hu hv Q q => by
      obtain ⟨r, h1, h2⟩ := h x y px py
      obtain ⟨rr, k1, k2⟩ := h1.rule (C := C) F
      exact ⟨rr, k1, k2 R H u v w hu hv Q fun z d R' H' st dq e => q z d R' H' st dq (by rw [e]; exact h2)⟩) H0 R H σ s w Q q⟩
theorem j_binP {op : Operator} {Pa : PyData → Prop} {Pb : PyData → PyData → Prop} (F : Fam 𝒳 P w K mg base k) (ha : J 𝒳 K C a Γ Pa) (hb : ∀ x, Pa x → J 𝒳 K C b Γ (Pb x)) (h : ∀ x y, Pa x → Pb x y → ∃ z, BinD op x y z ∧ PP z) : J 𝒳 K C (.BinOp a op b pos) Γ PP := jk_binP (κ := 0) (κ' := 0) F ha (fun x p => by
  rw [bmp_zero]
  exact hb x p) h
theorem j_neg {i : Int} (ha : JD 𝒳 K C a Γ (.int i)) : JD 𝒳 K C (.UnaryOp .USub a pos) Γ (.int (-i)) := J.of (fun j => pe_un un_neg (stE_ok j)) (xd_un ha fun x e R H u w hu Q q => by
  subst e
  cases hu
  exact ⟨i, rfl, q _ _ R H (.refl w) (.int _) rfl⟩)

/-! ### comparisons -/
mutual
theorem dq_dp {K : PySem.W.Frag} {H : Hp} : ∀ {v : V} {d : PyData}, d.canLay0 = true → Dq K H v d → Dp K H v d
  | _, _, _, .non => .non
  | _, _, _, .bl b => .bl b
  | _, _, _, .int i => .int i
  | _, _, _, .str x => .str x
  | _, _, h, .lst a b => .lst (.inl a) (dqs_dp (by simpa [PyData.canLay0] using h) b)
  | _, _, h, .tup a b => .tup a (dqs_dp (by simpa [PyData.canLay0] using h) b)
  | _, _, h, .dct _ _ _ => by simp [PyData.canLay0] at h
theorem dqs_dp {K : PySem.W.Frag} {H : Hp} : ∀ {vs : List V} {ds : List PyData}, PyData.canLayAll0 ds = true → DqAll K H vs ds → DpAll K H vs ds
  | _, _, _, .nil => .nil
  | _, _, h, .cons a b => by
    simp only [PyData.canLayAll0, Bool.and_eq_true] at h
    exact .cons (dq_dp h.1 a) (dqs_dp h.2 b)
end
theorem dq_shaped {K : PySem.W.Frag} {H : Hp} {v : V} {d : PyData} (h : SeqAt.shaped d = true) (q : Dq K H v d) : Dp K H v d := dq_dp (SeqAt.canLay_of_shaped h) q

/-- x in t, a tuple of data -/
def rInT (K : PySem.W.Frag) (neg : Bool) : R2 := fun x y H Q => ∃ d ds, Dp K H x d ∧ Dp K H y (.tuple ds) ∧ SeqAt.shaped d = true ∧ SeqAt.shaped (.tuple ds) = true ∧ Q (.bl (neg ^^ ds.any fun z => PyData.eqv z d)) H
theorem op_inT {X : Cx} (hu : X.A.units + 65 < cLine) : OpR X (compareOp .In) (rInT X.K false) := by
  intro pins s σ H x y v u Q I rx ry h
  obtain ⟨d, ds, hd, he, sd, se, q⟩ := h
  obtain ⟨as, r1⟩ := Dp.reads I d x v hd rx
  obtain ⟨bs, r2⟩ := Dp.reads I (.tuple ds) y u he ry
  exact SeqAt.in_tuple_reads r2 r1 (SeqAt.canLay_of_shaped se) (SeqAt.canLay_of_shaped sd) (room_in_shaped sd hu) ⟨.bl _, H, I, rfl, by simpa using q⟩
theorem op_notInT {X : Cx} (hu : X.A.units + 65 < cLine) : OpR X (compareOp .NotIn) (rInT X.K true) := by
  intro pins s σ H x y v u Q I rx ry h
  obtain ⟨d, ds, hd, he, sd, se, q⟩ := h
  obtain ⟨as, r1⟩ := Dp.reads I d x v hd rx
  obtain ⟨bs, r2⟩ := Dp.reads I (.tuple ds) y u he ry
  exact SeqAt.notIn_tuple_reads r2 r1 (SeqAt.canLay_of_shaped se) (SeqAt.canLay_of_shaped sd) (room_in_shaped sd hu) ⟨.bl _, H, I, rfl, by simpa using q⟩
/-- what a comparison says of two data -/
inductive CmpD : CmpOp → PyData → PyData → Bool → Prop
  | eq {x y : PyData} : SeqAt.shaped x = true → SeqAt.shaped y = true → CmpD .Eq x y (PyData.eqv x y)
  | ne {x y : PyData} : SeqAt.shaped x = true → SeqAt.shaped y = true → CmpD .NotEq x y (!PyData.eqv x y)
  | eqS (x y : Str) : CmpD .Eq (.str x) (.str y) (x == y)
  | neS (x y : Str) : CmpD .NotEq (.str x) (.str y) (!(x == y))
  | eqNS (y : Str) : CmpD .Eq .none (.str y) false
  | neNS (y : Str) : CmpD .NotEq .none (.str y) true
  | ltI (i j : Int) : CmpD .Lt (.int i) (.int j) (decide (i < j))
  | leI (i j : Int) : CmpD .LtE (.int i) (.int j) (decide (i ≤ j))
  | gtI (i j : Int) : CmpD .Gt (.int i) (.int j) (decide (j < i))
  | geI (i j : Int) : CmpD .GtE (.int i) (.int j) (decide (j ≤ i))
  | leS (x y : Str) : CmpD .LtE (.str x) (.str y) (!decide (y.cps.toList < x.cps.toList))
  | ltS (x y : Str) : CmpD .Lt (.str x) (.str y) (decide (x.cps.toList < y.cps.toList))
  | isN (x : PyData) : CmpD .Is x .none (match x with | .none => true | _ => false)
  | notN (x : PyData) : CmpD .IsNot x .none (match x with | .none => false | _ => true)
  | isB (a b : Bool) : CmpD .Is (.bool a) (.bool b) (decide (a = b))
  | notB (a b : Bool) : CmpD .IsNot (.bool a) (.bool b) (!decide (a = b))
  | inT {x : PyData} {ys : List PyData} : SeqAt.shaped x = true → SeqAt.shaped (.tuple ys) = true → CmpD .In x (.tuple ys) (ys.any fun y => PyData.eqv y x)
  | notInT {x : PyData} {ys : List PyData} : SeqAt.shaped x = true → SeqAt.shaped (.tuple ys) = true → CmpD .NotIn x (.tuple ys) (!ys.any fun y => PyData.eqv y x)
  | inL {x : PyData} {ys : List PyData} : SeqAt.shaped x = true → SeqAt.shaped (.list ys) = true → CmpD .In x (.list ys) (ys.any fun y => PyData.eqv y x)
  | notInL {x : PyData} {ys : List PyData} : SeqAt.shaped x = true → SeqAt.shaped (.list ys) = true → CmpD .NotIn x (.list ys) (!ys.any fun y => PyData.eqv y x)
  | inS (c : Nat) (y : Str) : CmpD .In (.str ⟨#[c]⟩) (.str y) (decide (c ∈ y.cps.toList))
  | notInS (c : Nat) (y : Str) : CmpD .NotIn (.str ⟨#[c]⟩) (.str y) (!decide (c ∈ y.cps.toList))
theorem Fam.u65 (F : Fam 𝒳 P w K mg base k) (i : ι) : (𝒳 i).A.units + 65 < cLine := by
  have := (F.rm i).un
  omega
/-- the operator's rule by values, and what it gives of two data -/
theorem CmpD.rule {op : CmpOp} {b : Bool} (F : Fam 𝒳 P w K mg base k) (h : CmpD op x y b) : ∃ r : R2, (∀ i, OpR (𝒳 i) (compareOp op) r) ∧ Op2 K C r x y (· = .bool b) := by
  cases h with
  | eq h1 h2 =>
    refine ⟨rEqD K, fun i => by have z := op_eqD (X := 𝒳 i) (F.rm i).units; rw [F.K i] at z; exact z, fun R H u v w hu hv Q q => ?_⟩
    exact ⟨_, _, dq_shaped h1 (dp_up w.sub hu), dq_shaped h2 (dp_up w.sub hv), h1, h2, q _ _ R H (.refl w) (.bl _) rfl⟩
  | ne h1 h2 =>
    refine ⟨rNeD K, fun i => by have z := op_neD (X := 𝒳 i) (F.rm i).units; rw [F.K i] at z; exact z, fun R H u v w hu hv Q q => ?_⟩
    exact ⟨_, _, dq_shaped h1 (dp_up w.sub hu), dq_shaped h2 (dp_up w.sub hv), h1, h2, q _ _ R H (.refl w) (.bl _) rfl⟩
  | eqS a b =>
    refine ⟨_, fun _ => op_eq, fun R H u v w hu hv Q q => ?_⟩
    cases hu
    cases hv
    exact ⟨rfl, q _ _ R H (.refl w) (by rw [dec_str]; exact .bl _) rfl⟩
  | neS a b =>
    refine ⟨_, fun _ => op_ne, fun R H u v w hu hv Q q => ?_⟩
    cases hu
    cases hv
    exact ⟨rfl, q _ _ R H (.refl w) (by rw [dec_str]; exact .bl _) rfl⟩
  | eqNS b =>
    refine ⟨_, fun _ => op_eq, fun R H u v w hu hv Q q => ?_⟩
    cases hu
    cases hv
    exact ⟨rfl, q _ _ R H (.refl w) (.bl _) rfl⟩
  | neNS b =>
    refine ⟨_, fun _ => op_ne, fun R H u v w hu hv Q q => ?_⟩
    cases hu
    cases hv
    exact ⟨rfl, q _ _ R H (.refl w) (.bl _) rfl⟩
  | ltI i j => exact ⟨_, fun _ => op_lt, op2_I0 fun _ => .bl _⟩
  | leI i j => exact ⟨_, fun _ => op_le, op2_I0 fun _ => .bl _⟩
  | gtI i j => exact ⟨_, fun _ => op_gt, op2_I0 fun _ => .bl _⟩
  | geI i j => exact ⟨_, fun _ => op_ge, op2_I0 fun _ => .bl _⟩
  | leS a b =>
    refine ⟨_, fun _ => op_le_str, fun R H u v w hu hv Q q => ?_⟩
    cases hu
    cases hv
    exact ⟨_, _, rfl, rfl, q _ _ R H (.refl w) (.bl _) rfl⟩
  | ltS a b =>
    refine ⟨_, fun _ => op_lt_str, fun R H u v w hu hv Q q => ?_⟩
    cases hu
    cases hv
    exact ⟨_, _, rfl, rfl, q _ _ R H (.refl w) (.bl _) rfl⟩
  | isN =>
    refine ⟨_, fun _ => op_isN, fun R H u v w hu hv Q q => ?_⟩
    cases hv
    cases hu <;> exact ⟨rfl, q _ _ R H (.refl w) (.bl _) rfl⟩
  | notN =>
    refine ⟨_, fun _ => op_notN, fun R H u v w hu hv Q q => ?_⟩
    cases hv
    cases hu <;> exact ⟨rfl, q _ _ R H (.refl w) (.bl _) rfl⟩
  | isB a b =>
    refine ⟨_, fun _ => op_isBl, fun R H u v w hu hv Q q => ?_⟩
    cases hu
    cases hv
    exact ⟨_, _, rfl, rfl, q _ _ R H (.refl w) (.bl _) rfl⟩
  | notB a b =>
    refine ⟨_, fun _ => op_notBl, fun R H u v w hu hv Q q => ?_⟩
    cases hu
    cases hv
    exact ⟨_, _, rfl, rfl, q _ _ R H (.refl w) (.bl _) rfl⟩
  | inT h1 h2 =>
    refine ⟨rInT K false, fun i => by have z := op_inT (X := 𝒳 i) (F.u65 i); rw [F.K i] at z; exact z, fun R H u v w hu hv Q q => ?_⟩
    exact ⟨_, _, dq_shaped h1 (dp_up w.sub hu), dq_shaped h2 (dp_up w.sub hv), h1, h2, by simpa using q _ _ R H (.refl w) (.bl _) rfl⟩
  | notInT h1 h2 =>
    refine ⟨rInT K true, fun i => by have z := op_notInT (X := 𝒳 i) (F.u65 i); rw [F.K i] at z; exact z, fun R H u v w hu hv Q q => ?_⟩
    exact ⟨_, _, dq_shaped h1 (dp_up w.sub hu), dq_shaped h2 (dp_up w.sub hv), h1, h2, by simpa using q _ _ R H (.refl w) (.bl _) rfl⟩
  | inL h1 h2 =>
    refine ⟨rInD K, fun i => by have z := op_inD (X := 𝒳 i) (F.u65 i); rw [F.K i] at z; exact z, fun R H u v w hu hv Q q => ?_⟩
    exact ⟨_, _, dq_shaped h1 (dp_up w.sub hu), dq_shaped h2 (dp_up w.sub hv), h1, h2, q _ _ R H (.refl w) (.bl _) rfl⟩
  | notInL h1 h2 =>
    refine ⟨rNotInD K, fun i => by have z := op_notInD (X := 𝒳 i) (F.u65 i); rw [F.K i] at z; exact z, fun R H u v w hu hv Q q => ?_⟩
    exact ⟨_, _, dq_shaped h1 (dp_up w.sub hu), dq_shaped h2 (dp_up w.sub hv), h1, h2, q _ _ R H (.refl w) (.bl _) rfl⟩
  | inS a b =>
    refine ⟨_, fun _ => op_in_sign, fun R H u v w hu hv Q q => ?_⟩
    cases hu
    cases hv
    exact ⟨_, _, rfl, rfl, q _ _ R H (.refl w) (.bl _) rfl⟩
  | notInS a b =>
    refine ⟨_, fun _ => op_notIn_sign, fun R H u v w hu hv Q q => ?_⟩
    cases hu
    cases hv
    exact ⟨_, _, rfl, rfl, q _ _ R H (.refl w) (.bl _) rfl⟩
theorem j_cmp {op : CmpOp} {r : Bool} (F : Fam 𝒳 P w K mg base k) (ha : JD 𝒳 K C a Γ x) (hb : JD 𝒳 K C b Γ y) (h : CmpD op x y r) (hm : behindInMarks op b = false := by first | exact nomark _ | rfl | with_unfolding_all rfl) : JD 𝒳 K C (.Compare a [op] [b] pos) Γ (.bool r) := by
  obtain ⟨rr, h1, h2⟩ := h.rule (C := C) F
  exact J.of (fun i => pe_cmpR (h1 i) (stE_ok i) (stE_ok i) hm) (xd_op1 ha hb h2)
theorem jt_cmp {op : CmpOp} {r : Bool} (F : Fam 𝒳 P w K mg base k) (ha : JD 𝒳 K C a Γ x) (hb : JD 𝒳 K C b Γ y) (h : CmpD op x y r) (hm : behindInMarks op b = false := by first | exact nomark _ | rfl | with_unfolding_all rfl) : JT 𝒳 K C (.Compare a [op] [b] pos) Γ (· = r) := by
  obtain ⟨rr, h1, h2⟩ := h.rule (C := C) F
  exact JT.of (fun i => pt_cmpR (h1 i) (stE_ok i) (stE_ok i) hm) (xt_test (xd_b1 (xd_op1 ha hb h2)))
/-- operands of which not all is known -/
theorem jtk_cmpP {op : CmpOp} {Pa : PyData → Prop} {Pb : PyData → PyData → Prop} {B : Bool → Prop} (F : Fam 𝒳 P w K mg base k) (ha : Jk 𝒳 K C κ a Γ Pa) (hb : ∀ x, Pa x → Jk 𝒳 K C κ' b (bmp κ Γ) (Pb x)) (h : ∀ x y, Pa x → Pb x y → ∃ r, CmpD op x y r ∧ B r)
    (hm : behindInMarks op b = false := by first | exact nomark _ | rfl | with_unfolding_all rfl) : JTk 𝒳 K C (κ + κ') (.Compare a [op] [b] pos) Γ B := fun H0 R H σ s w Q q =>
  -- the rule is chosen once both operands are known
  ⟨tTest (tOp (fun x y H Q => ∃ rr : R2, (∀ i, OpR (𝒳 i) (compareOp op) rr) ∧ rr x y H Q) (stE 𝒳 a) (stE 𝒳 b)), fun i => pt_cmpR (fun pins s σ H x y v u Q I rx ry ⟨rr, h1, h2⟩ => h1 i pins s σ H x y v u Q I rx ry h2) (stE_ok i) (stE_ok i) hm,
    xt_test (xdk_op (P := fun d => ∃ b, d = .bool b ∧ B b) ha hb fun x y px py R H u v w hu hv Q q => by
      obtain ⟨r, h1, h2⟩ := h x y px py
      obtain ⟨rr, k1, k2⟩ := h1.rule (C := C) F
      exact ⟨rr, k1, k2 R H u v w hu hv Q fun z d R' H' st dq e => q z d R' H' st dq ⟨r, e, h2⟩⟩) H0 R H σ s w Q q⟩
theorem jt_cmpP {op : CmpOp} {Pa : PyData → Prop} {Pb : PyData → PyData → Prop} {B : Bool → Prop} (F : Fam 𝒳 P w K mg base k) (ha : J 𝒳 K C a Γ Pa) (hb : ∀ x, Pa x → J 𝒳 K C b Γ (Pb x)) (h : ∀ x y, Pa x → Pb x y → ∃ r, CmpD op x y r ∧ B r)
    (hm : behindInMarks op b = false := by first | exact nomark _ | rfl | with_unfolding_all rfl) : JT 𝒳 K C (.Compare a [op] [b] pos) Γ B := fun H0 R H σ s w Q q =>
  -- the rule is chosen once both operands are known
  ⟨tTest (tOp (fun x y H Q => ∃ rr : R2, (∀ i, OpR (𝒳 i) (compareOp op) rr) ∧ rr x y H Q) (stE 𝒳 a) (stE 𝒳 b)), fun i => pt_cmpR (fun pins s σ H x y v u Q I rx ry ⟨rr, h1, h2⟩ => h1 i pins s σ H x y v u Q I rx ry h2) (stE_ok i) (stE_ok i) hm,
    xt_test (xd_op (P := fun d => ∃ b, d = .bool b ∧ B b) ha hb fun x y px py R H u v w hu hv Q q => by
      obtain ⟨r, h1, h2⟩ := h x y px py
      obtain ⟨rr, k1, k2⟩ := h1.rule (C := C) F
      exact ⟨rr, k1, k2 R H u v w hu hv Q fun z d R' H' st dq e => q z d R' H' st dq ⟨r, e, h2⟩⟩) H0 R H σ s w Q q⟩
theorem jk_cmpP {op : CmpOp} {Pa : PyData → Prop} {Pb : PyData → PyData → Prop} {B : Bool → Prop} (F : Fam 𝒳 P w K mg base k) (ha : Jk 𝒳 K C κ a Γ Pa) (hb : ∀ x, Pa x → Jk 𝒳 K C κ' b (bmp κ Γ) (Pb x)) (h : ∀ x y, Pa x → Pb x y → ∃ r, CmpD op x y r ∧ B r)
    (hm : behindInMarks op b = false := by first | exact nomark _ | rfl | with_unfolding_all rfl) : Jk 𝒳 K C (κ + κ') (.Compare a [op] [b] pos) Γ (fun d => ∃ r, d = .bool r ∧ B r) := fun H0 R H σ s w Q q =>
  ⟨tOp (fun x y H Q => ∃ rr : R2, (∀ i, OpR (𝒳 i) (compareOp op) rr) ∧ rr x y H Q) (stE 𝒳 a) (stE 𝒳 b), fun i => pe_cmpR (fun pins s σ H x y v u Q I rx ry ⟨rr, h1, h2⟩ => h1 i pins s σ H x y v u Q I rx ry h2) (stE_ok i) (stE_ok i) hm,
    xdk_op (P := fun d => ∃ b, d = .bool b ∧ B b) ha hb (fun x y px py R H u v w hu hv Q q => by
      obtain ⟨r, h1, h2⟩ := h x y px py
      obtain ⟨rr, k1, k2⟩ := h1.rule (C := C) F
      exact ⟨rr, k1, k2 R H u v w hu hv Q fun z d R' H' st dq e => q z d R' H' st dq ⟨r, e, h2⟩⟩) H0 R H σ s w Q q⟩
theorem j_cmpP {op : CmpOp} {Pa : PyData → Prop} {Pb : PyData → PyData → Prop} {B : Bool → Prop} (F : Fam 𝒳 P w K mg base k) (ha : J 𝒳 K C a Γ Pa) (hb : ∀ x, Pa x → J 𝒳 K C b Γ (Pb x)) (h : ∀ x y, Pa x → Pb x y → ∃ r, CmpD op x y r ∧ B r)
    (hm : behindInMarks op b = false := by first | exact nomark _ | rfl | with_unfolding_all rfl) : J 𝒳 K C (.Compare a [op] [b] pos) Γ (fun d => ∃ r, d = .bool r ∧ B r) := fun H0 R H σ s w Q q =>
  ⟨tOp (fun x y H Q => ∃ rr : R2, (∀ i, OpR (𝒳 i) (compareOp op) rr) ∧ rr x y H Q) (stE 𝒳 a) (stE 𝒳 b), fun i => pe_cmpR (fun pins s σ H x y v u Q I rx ry ⟨rr, h1, h2⟩ => h1 i pins s σ H x y v u Q I rx ry h2) (stE_ok i) (stE_ok i) hm,
    xd_op (P := fun d => ∃ b, d = .bool b ∧ B b) ha hb (fun x y px py R H u v w hu hv Q q => by
      obtain ⟨r, h1, h2⟩ := h x y px py
      obtain ⟨rr, k1, k2⟩ := h1.rule (C := C) F
      exact ⟨rr, k1, k2 R H u v w hu hv Q fun z d R' H' st dq e => q z d R' H' st dq ⟨r, e, h2⟩⟩) H0 R H σ s w Q q⟩
/-- a < b < c -/
theorem xd_chain {r r' : R2} {ta tb tc : TE} {x y z : PyData} {p q : Bool} (ha : XD K C ta Γ (· = x)) (hb : XD K C tb Γ (· = y)) (hc : p = true → XD K C tc Γ (· = z)) (h1 : Op2 K C r x y (· = .bool p)) (h2 : p = true → Op2 K C r' y z (· = .bool q)) :
    XD K C (tChain r r' ta tb tc) Γ (· = .bool (p && q)) := fun H0 R H σ s w Q k =>
  ha H0 R H σ s w _ fun u x' R1 H1 s1 d1 e1 => hb H0 R1 H1 σ (s.stp s1) s1.w _ fun v y' R2 H2 s2 d2 e2 => by
    subst e1 e2
    refine h1 R2 H2 u v s2.w (dp_up s2.r d1) d2 _ fun t d R3 H3 s3 d3 e3 => ?_
    subst e3
    cases d3
    refine ⟨p, rfl, ?_⟩
    cases p with
    | false => exact k _ _ R3 H3 ((s1.trans s2).trans s3) (.bl false) rfl
    | true =>
      show tc σ H3 _
      refine hc rfl H0 R3 H3 σ (s.stp ((s1.trans s2).trans s3)) s3.w _ fun v' z' R4 H4 s4 d4 e4 => ?_
      subst e4
      exact h2 rfl R4 H4 v v' s4.w (dp_up (s3.r.trans s4.r) d2) d4 Q fun t d R5 H5 s5 d5 e5 => k t d R5 H5 ((((s1.trans s2).trans s3).trans s4).trans s5) d5 e5
theorem j_chain {op op' : CmpOp} {z : PyData} {p q : Bool} (F : Fam 𝒳 P w K mg base k) (ha : JD 𝒳 K C a Γ x) (hb : JD 𝒳 K C b Γ y) (hc : JD 𝒳 K C c Γ z) (h1 : CmpD op x y p) (h2 : CmpD op' y z q) (hm : lastMarks [op, op'] [b, c] = false := by with_unfolding_all rfl) :
    JD 𝒳 K C (.Compare a [op, op'] [b, c] pos) Γ (.bool (p && q)) := by
  obtain ⟨r1, k1, k2⟩ := h1.rule (C := C) F
  obtain ⟨r2, l1, l2⟩ := h2.rule (C := C) F
  exact J.of (fun i => pe_chain (k1 i) (l1 i) (stE_ok i) (stE_ok i) (stE_ok i) hm) (xd_chain ha hb (fun _ => hc) k2 fun _ => l2)
theorem jt_chain {op op' : CmpOp} {z : PyData} {p q : Bool} (F : Fam 𝒳 P w K mg base k) (ha : JD 𝒳 K C a Γ x) (hb : JD 𝒳 K C b Γ y) (hc : JD 𝒳 K C c Γ z) (h1 : CmpD op x y p) (h2 : CmpD op' y z q) (hm : lastMarks [op, op'] [b, c] = false := by with_unfolding_all rfl) :
    JT 𝒳 K C (.Compare a [op, op'] [b, c] pos) Γ (· = (p && q)) := by
  obtain ⟨r1, k1, k2⟩ := h1.rule (C := C) F
  obtain ⟨r2, l1, l2⟩ := h2.rule (C := C) F
  exact JT.of (fun i => pt_chain (k1 i) (l1 i) (stE_ok i) (stE_ok i) (stE_ok i) hm) (xt_test (xd_b1 (xd_chain ha hb (fun _ => hc) k2 fun _ => l2)))

/-! ### tests -/
/-- a value that is a bool, as a test -/
theorem jt_val {B : Bool → Prop} (ha : Jk 𝒳 K C κ a Γ (fun d => ∃ b, d = .bool b ∧ B b)) (he : ∀ i whole, isTrue a (𝒳 i).env whole = (do let v ← whole; standAt a.pos; holding [v] (truthy v)) := by intro _ _; rfl) : JTk 𝒳 K C κ a Γ B := JT.of (fun i => pt_val (stE_ok i) (he i)) (xt_B ha)
theorem jt_val1 {r : Bool} (ha : JD 𝒳 K C a Γ (.bool r)) (he : ∀ i whole, isTrue a (𝒳 i).env whole = (do let v ← whole; standAt a.pos; holding [v] (truthy v)) := by intro _ _; rfl) : JT 𝒳 K C a Γ (· = r) := JT.of (fun i => pt_val (stE_ok i) (he i)) (xt_B (xd_b1 ha))
theorem jt_not {r : Bool} (h : JT 𝒳 K C a Γ (· = r)) : JT 𝒳 K C (.UnaryOp .Not a pos) Γ (· = !r) := JT.of (fun i => pt_not (stT_ok i)) (xt_not h)
theorem jt_notP {B : Bool → Prop} (h : JTk 𝒳 K C κ a Γ (fun r => B (!r))) : JTk 𝒳 K C κ (.UnaryOp .Not a pos) Γ B := JT.of (fun i => pt_not (stT_ok i)) (xt_notP h)
theorem jt_w {B : Bool → Prop} (h : JWk 𝒳 K C κ a Γ B) : JTk 𝒳 K C κ a Γ B := JT.of (fun i => (stW_ok i).pt) h
theorem jw_and1 {B : Bool → Prop} (h : JTk 𝒳 K C κ a Γ B) : JWk 𝒳 K C κ (.BoolOp .And [a] pos) Γ B := JW.of (fun i => pw_and1 (stT_ok i)) h
theorem jw_or1 {B : Bool → Prop} (h : JTk 𝒳 K C κ a Γ B) : JWk 𝒳 K C κ (.BoolOp .Or [a] pos) Γ B := JW.of (fun i => pw_or1 (stT_ok i)) h
theorem jw_and {p q : Bool} (h1 : JT 𝒳 K C a Γ (· = p)) (h2 : p = true → JW 𝒳 K C (.BoolOp .And (b :: es) pos) Γ (· = q)) : JW 𝒳 K C (.BoolOp .And (a :: b :: es) pos) Γ (· = (p && q)) := JW.of (fun i => pw_and (stT_ok i) (stW_ok i)) (xt_and h1 h2)
theorem jw_or {p q : Bool} (h1 : JT 𝒳 K C a Γ (· = p)) (h2 : p = false → JW 𝒳 K C (.BoolOp .Or (b :: es) pos) Γ (· = q)) : JW 𝒳 K C (.BoolOp .Or (a :: b :: es) pos) Γ (· = (p || q)) := JW.of (fun i => pw_or (stT_ok i) (stW_ok i)) (xt_or h1 h2)
theorem jwk_andP {A B : Bool → Prop} (h1 : JTk 𝒳 K C κ a Γ A) (h2 : A true → JWk 𝒳 K C κ' (.BoolOp .And (b :: es) pos) (bmp κ Γ) B) (h3 : A false → B false) : JWk 𝒳 K C (κ + κ') (.BoolOp .And (a :: b :: es) pos) Γ B := JW.of (fun i => pw_and (stT_ok i) (stW_ok i)) (xt_andP h1 h2 h3)
theorem jwk_orP {A B : Bool → Prop} (h1 : JTk 𝒳 K C κ a Γ A) (h2 : A false → JWk 𝒳 K C κ' (.BoolOp .Or (b :: es) pos) (bmp κ Γ) B) (h3 : A true → B true) : JWk 𝒳 K C (κ + κ') (.BoolOp .Or (a :: b :: es) pos) Γ B := JW.of (fun i => pw_or (stT_ok i) (stW_ok i)) (xt_orP h1 h2 h3)
theorem jw_andP {A B : Bool → Prop} (h1 : JT 𝒳 K C a Γ A) (h2 : A true → JW 𝒳 K C (.BoolOp .And (b :: es) pos) Γ B) (h3 : A false → B false) : JW 𝒳 K C (.BoolOp .And (a :: b :: es) pos) Γ B := jwk_andP (κ := 0) (κ' := 0) h1 (fun z => by
  rw [bmp_zero]
  exact h2 z) h3
theorem jw_orP {A B : Bool → Prop} (h1 : JT 𝒳 K C a Γ A) (h2 : A false → JW 𝒳 K C (.BoolOp .Or (b :: es) pos) Γ B) (h3 : A true → B true) : JW 𝒳 K C (.BoolOp .Or (a :: b :: es) pos) Γ B := jwk_orP (κ := 0) (κ' := 0) h1 (fun z => by
  rw [bmp_zero]
  exact h2 z) h3
/-- and, or, not as values of bools -/
theorem j_one {op : BoolOp} (h : J 𝒳 K C a Γ PP) : J 𝒳 K C (.BoolOp op [a] pos) Γ PP := J.of (fun i => pe_one (stE_ok i)) h
theorem j_and {p : Bool} {d : PyData} (h1 : JD 𝒳 K C a Γ (.bool p)) (h2 : p = true → JD 𝒳 K C (.BoolOp .And (b :: es) pos) Γ d) : JD 𝒳 K C (.BoolOp .And (a :: b :: es) pos) Γ (if p then d else .bool false) := J.of (fun i => pe_and (stE_ok i) (stE_ok i)) (xd_andV h1 h2)
theorem j_or {p : Bool} {d : PyData} (h1 : JD 𝒳 K C a Γ (.bool p)) (h2 : p = false → JD 𝒳 K C (.BoolOp .Or (b :: es) pos) Γ d) : JD 𝒳 K C (.BoolOp .Or (a :: b :: es) pos) Γ (if p then .bool true else d) := J.of (fun i => pe_or (stE_ok i) (stE_ok i)) (xd_orV h1 h2)
theorem j_andB {p q : Bool} (h1 : JD 𝒳 K C a Γ (.bool p)) (h2 : p = true → JD 𝒳 K C (.BoolOp .And (b :: es) pos) Γ (.bool q)) : JD 𝒳 K C (.BoolOp .And (a :: b :: es) pos) Γ (.bool (p && q)) := (j_and h1 h2).is (by cases p <;> rfl)
theorem j_orB {p q : Bool} (h1 : JD 𝒳 K C a Γ (.bool p)) (h2 : p = false → JD 𝒳 K C (.BoolOp .Or (b :: es) pos) Γ (.bool q)) : JD 𝒳 K C (.BoolOp .Or (a :: b :: es) pos) Γ (.bool (p || q)) := (j_or h1 h2).is (by cases p <;> rfl)
theorem j_not {p : Bool} (h : JD 𝒳 K C a Γ (.bool p)) : JD 𝒳 K C (.UnaryOp .Not a pos) Γ (.bool (!p)) := J.of (fun i => pe_not (stE_ok i)) (xd_notV h)
theorem j_if {p : Bool} (h : JT 𝒳 K C a Γ (· = p)) (h1 : p = true → JD 𝒳 K C b Γ x) (h2 : p = false → JD 𝒳 K C c Γ y) : JD 𝒳 K C (.IfExp a b c pos) Γ (if p then x else y) := J.of (fun i => pe_ifExp (stT_ok i) (stE_ok i) (stE_ok i)) (xd_if1 h h1 h2)
theorem jk_ifP {B : Bool → Prop} (h : JTk 𝒳 K C κ a Γ B) (h1 : B true → Jk 𝒳 K C κ' b (bmp κ Γ) PP) (h2 : B false → Jk 𝒳 K C κ' c (bmp κ Γ) PP) : Jk 𝒳 K C (κ + κ') (.IfExp a b c pos) Γ PP := J.of (fun i => pe_ifExp (stT_ok i) (stE_ok i) (stE_ok i)) (xdk_if h h1 h2)
theorem j_ifP {B : Bool → Prop} (h : JT 𝒳 K C a Γ B) (h1 : B true → J 𝒳 K C b Γ PP) (h2 : B false → J 𝒳 K C c Γ PP) : J 𝒳 K C (.IfExp a b c pos) Γ PP := J.of (fun i => pe_ifExp (stT_ok i) (stE_ok i) (stE_ok i)) (xd_if h h1 h2)
end
end DL

/-! DLe: displays, subscripts, slices, calls, comprehensions, statements: in data. -/
namespace DL
open PySem PySem.Spec PyProof.Rows L2
section
variable {ι : Type} {𝒳 : ι → Cx} {P : Program} {w : World} {K : PySem.W.Frag} {mg : Str → Option Value} {base : Heap} {k j κ κ' : Nat} {C : Ctx} {Γ : List Ent} {e a b c tg : Expr} {es : List Expr} {st : Stmt} {ss : List Stmt} {pos : Pos} {PP : PyData → Prop} {d x y : PyData}

/-! ### arguments, displays -/
theorem ja_nil : JA 𝒳 K C [] Γ (· = []) := JA.of (fun _ => pa_nil) xa_nil
theorem ja_cons {rs : List Ent} (ha : JD 𝒳 K C e Γ x) (hb : JA 𝒳 K C es Γ (· = rs)) (hs : ∀ i, starEach (e :: es) (𝒳 i).env = (false, eval e (𝒳 i).env) :: starEach es (𝒳 i).env := by intro _; rfl) : JA 𝒳 K C (e :: es) Γ (· = .dat x :: rs) :=
  JA.of (fun i => pa_cons (stE_ok i) (stA_ok i) (hs i)) (xa_cons1 ha hb)
theorem jak_consP {Pb : PyData → List Ent → Prop} {PR : List Ent → Prop} (ha : Jk 𝒳 K C κ e Γ PP) (hb : ∀ x, PP x → JAk 𝒳 K C κ' es (bmp κ Γ) (Pb x)) (hp : ∀ x rs, PP x → Pb x rs → PR (.dat x :: rs)) (hs : ∀ i, starEach (e :: es) (𝒳 i).env = (false, eval e (𝒳 i).env) :: starEach es (𝒳 i).env := by intro _; rfl) : JAk 𝒳 K C (κ + κ') (e :: es) Γ PR :=
  JA.of (fun i => pa_cons (stE_ok i) (stA_ok i) (hs i)) (xak_cons ha hb hp)
theorem ja_consP {Pb : PyData → List Ent → Prop} {PR : List Ent → Prop} (ha : J 𝒳 K C e Γ PP) (hb : ∀ x, PP x → JA 𝒳 K C es Γ (Pb x)) (hp : ∀ x rs, PP x → Pb x rs → PR (.dat x :: rs)) (hs : ∀ i, starEach (e :: es) (𝒳 i).env = (false, eval e (𝒳 i).env) :: starEach es (𝒳 i).env := by intro _; rfl) : JA 𝒳 K C (e :: es) Γ PR :=
  JA.of (fun i => pa_cons (stE_ok i) (stA_ok i) (hs i)) (xa_cons ha hb hp)
/-- the deck, the script as an argument -/
theorem ja_dck (i : Nat) {n : Nat} {x : Str} {rs : List Ent} (hb : JA 𝒳 K C es Γ (· = rs)) (h : Γ[i]? = some (.dck n) := by rfl) (hN : ∀ j, (𝒳 j).N[i]? = some x := by intro _; rfl) (hv : ∀ j, Vis (𝒳 j).env.scope x := by intro _; first | exact Or.inl rfl | exact Or.inr (Or.inl rfl) | exact Or.inr (Or.inr rfl))
    (hd : (x == ("__debug__" : Str)) = false := by decide) (hcd : (x == ("__classdict__" : Str)) = false := by decide) (hs : ∀ i, starEach (.Name x pos :: es) (𝒳 i).env = (false, eval (.Name x pos) (𝒳 i).env) :: starEach es (𝒳 i).env := by intro _; rfl) : JA 𝒳 K C (.Name x pos :: es) Γ (· = .dck 0 :: rs) :=
  JA.of (fun j => pa_cons (pe_var (hN j) (hv j) hd hcd) (stA_ok j) (hs j)) (xa_dck h hb)
theorem ja_dckP (i : Nat) {n : Nat} {x : Str} {PR : List Ent → Prop} (hb : JAk 𝒳 K C κ es Γ (fun rs => PR (.dck 0 :: rs))) (h : Γ[i]? = some (.dck n) := by rfl) (hN : ∀ j, (𝒳 j).N[i]? = some x := by intro _; rfl) (hv : ∀ j, Vis (𝒳 j).env.scope x := by intro _; first | exact Or.inl rfl | exact Or.inr (Or.inl rfl) | exact Or.inr (Or.inr rfl))
    (hd : (x == ("__debug__" : Str)) = false := by decide) (hcd : (x == ("__classdict__" : Str)) = false := by decide) (hs : ∀ i, starEach (.Name x pos :: es) (𝒳 i).env = (false, eval (.Name x pos) (𝒳 i).env) :: starEach es (𝒳 i).env := by intro _; rfl) : JAk 𝒳 K C κ (.Name x pos :: es) Γ PR :=
  JA.of (fun j => pa_cons (pe_var (hN j) (hv j) hd hcd) (stA_ok j) (hs j)) (xa_dckP h hb)
theorem xa_scr {tr : TA} {ns : List Int} {rs : List Ent} {i : Nat} (h : Γ[i]? = some (.scr ns)) (hb : XA K C tr Γ (· = rs)) : XA K C (tCons (tVar i) tr) Γ (· = .scr ns :: rs) := fun H0 R H σ s w Q q => by
  obtain ⟨v, h1, a, h2, h3⟩ := s.get h (fun z => nomatch z)
  exact ⟨v, h1, hb H0 R H σ s w _ fun vs r R2 H2 s2 a2 p2 => q (v :: vs) (.scr ns :: r) R2 H2 s2 (.cons ⟨a, h2, s2.r.seq h3⟩ a2) (by rw [p2])⟩
theorem ja_scr (i : Nat) {x : Str} {ns : List Int} {rs : List Ent} (hb : JA 𝒳 K C es Γ (· = rs)) (h : Γ[i]? = some (.scr ns) := by rfl) (hN : ∀ j, (𝒳 j).N[i]? = some x := by intro _; rfl) (hv : ∀ j, Vis (𝒳 j).env.scope x := by intro _; first | exact Or.inl rfl | exact Or.inr (Or.inl rfl) | exact Or.inr (Or.inr rfl))
    (hd : (x == ("__debug__" : Str)) = false := by decide) (hcd : (x == ("__classdict__" : Str)) = false := by decide) (hs : ∀ i, starEach (.Name x pos :: es) (𝒳 i).env = (false, eval (.Name x pos) (𝒳 i).env) :: starEach es (𝒳 i).env := by intro _; rfl) : JA 𝒳 K C (.Name x pos :: es) Γ (· = .scr ns :: rs) :=
  JA.of (fun j => pa_cons (pe_var (hN j) (hv j) hd hcd) (stA_ok j) (hs j)) (xa_scr h hb)
theorem j_tup {ds : List PyData} {n : Nat} (h : JA 𝒳 K C es Γ (· = dats ds)) (hl : ds.length ≤ 100000 := by first | decide | (simp only [List.length_cons, List.length_nil]; decide)) : JD 𝒳 K C (.Tuple es n pos) Γ (.tuple ds) := J.of (fun i => pe_tup (stA_ok i)) (xd_tup h hl)
theorem j_tupP {n : Nat} {PL : List PyData → Prop} (h : JAk 𝒳 K C κ es Γ (fun rs => ∃ ds, rs = dats ds ∧ PL ds)) (hl : ∀ ds, PL ds → ds.length ≤ 100000) : Jk 𝒳 K C κ (.Tuple es n pos) Γ (fun d => ∃ ds, d = .tuple ds ∧ PL ds) := J.of (fun i => pe_tup (stA_ok i)) (xd_tupP h hl)
theorem jo_lst {ds : List PyData} (h : JA 𝒳 K C es Γ (· = dats ds)) (hl : ds.length ≤ 100000 := by first | decide | (simp only [List.length_cons, List.length_nil]; decide)) : JO 𝒳 K C (.List es pos) Γ (· = ds) := JO.of (fun i => pe_lst (stA_ok i)) (xo_lst h hl)
theorem jo_lstP {PL : List PyData → Prop} (h : JAk 𝒳 K C κ es Γ (fun rs => ∃ ds, rs = dats ds ∧ PL ds)) (hl : ∀ ds, PL ds → ds.length ≤ 100000) : JOk 𝒳 K C κ (.List es pos) Γ PL := JO.of (fun i => pe_lst (stA_ok i)) (xo_lstP h hl)
/-- a new list as data -/
theorem j_frz {PL : List PyData → Prop} (h : JOk 𝒳 K C κ e Γ PL) : Jk 𝒳 K C κ e Γ (fun d => ∃ ds, d = .list ds ∧ PL ds) := XOk.frz h
theorem j_frz1 {ds : List PyData} (h : JO 𝒳 K C e Γ (· = ds)) : JD 𝒳 K C e Γ (.list ds) := XO.frz1 h
theorem j_lst {ds : List PyData} (h : JA 𝒳 K C es Γ (· = dats ds)) (hl : ds.length ≤ 100000 := by first | decide | (simp only [List.length_cons, List.length_nil]; decide)) : JD 𝒳 K C (.List es pos) Γ (.list ds) := j_frz1 (jo_lst h hl)

/-! ### subscripts -/
theorem dps_atI {R : Hp} {vs : List V} {ds : List PyData} {i : Int} {d : PyData} (h : DqAll K R vs ds) (e : atI ds i = some d) : ∃ v, atI vs i = some v ∧ Dq K R v d := by
  unfold atI at e ⊢
  rw [dps_len h]
  cases q : ixN ds.length i with
  | none =>
    rw [q] at e
    cases e
  | some j =>
    rw [q] at e
    exact dps_get h e
inductive IxD : PyData → PyData → PyData → Prop
  | list (ds : List PyData) (i : Int) (d : PyData) : atI ds i = some d → IxD (.list ds) (.int i) d
  | tup (ds : List PyData) (i : Int) (d : PyData) : atI ds i = some d → IxD (.tuple ds) (.int i) d
  | str (x : Str) (i : Int) (c : Nat) : x.length ≤ sizeLine → atI x.cps.toList i = some c → IxD (.str x) (.int i) (.str ⟨#[c]⟩)
theorem IxD.op (h : IxD x y d) : Op2 K C (rIx K) x y (· = d) := fun R H u v w hu hv Q q => by
  cases h with
  | list ds i d h =>
    cases hu with
    | lst h1 a1 =>
      cases hv
      obtain ⟨z, k1, k2⟩ := dps_atI a1 h
      exact .inl ⟨_, _, i, z, rfl, rfl, .inl (rd_up w.sub h1), k1, q _ _ R H (.refl w) k2 rfl⟩
  | tup ds i d h =>
    cases hu with
    | tup h1 a1 =>
      cases hv
      obtain ⟨z, k1, k2⟩ := dps_atI a1 h
      exact .inr (.inl ⟨_, _, i, z, rfl, rfl, sqT_up w.sub h1, k1, q _ _ R H (.refl w) k2 rfl⟩)
  | str y i c hl h =>
    cases hu
    cases hv
    exact .inr (.inr ⟨_, i, c, rfl, rfl, hl, h, q _ _ R H (.refl w) (.str _) rfl⟩)
theorem j_ix (F : Fam 𝒳 P w K mg base k) (ha : JD 𝒳 K C a Γ x) (hb : JD 𝒳 K C b Γ y) (h : IxD x y d) (hs : PlainIx b := by intro _ _; rfl) : JD 𝒳 K C (.Subscript a b pos) Γ d :=
  J.of (fun i => by have z := pe_ix (pos := pos) (ix_seq (X := 𝒳 i)) (stE_ok (e := a) i) (stE_ok (e := b) i) hs; rw [F.K i] at z; exact z) (xd_op1 ha hb h.op)
theorem jk_ixP {Pa : PyData → Prop} {Pb : PyData → PyData → Prop} (F : Fam 𝒳 P w K mg base k) (ha : Jk 𝒳 K C κ a Γ Pa) (hb : ∀ x, Pa x → Jk 𝒳 K C κ' b (bmp κ Γ) (Pb x)) (h : ∀ x y, Pa x → Pb x y → ∃ d, IxD x y d ∧ PP d) (hs : PlainIx b := by intro _ _; rfl) : Jk 𝒳 K C (κ + κ') (.Subscript a b pos) Γ PP :=
  J.of (fun i => by have z := pe_ix (pos := pos) (ix_seq (X := 𝒳 i)) (stE_ok (e := a) i) (stE_ok (e := b) i) hs; rw [F.K i] at z; exact z) (xdk_op ha hb fun x y px py R H u v w hu hv Q q => by
    obtain ⟨d, h1, h2⟩ := h x y px py
    exact h1.op R H u v w hu hv Q fun z e R' H' st dq ee => q z e R' H' st dq (by rw [ee]; exact h2))
theorem j_ixP {Pa : PyData → Prop} {Pb : PyData → PyData → Prop} (F : Fam 𝒳 P w K mg base k) (ha : J 𝒳 K C a Γ Pa) (hb : ∀ x, Pa x → J 𝒳 K C b Γ (Pb x)) (h : ∀ x y, Pa x → Pb x y → ∃ d, IxD x y d ∧ PP d) (hs : PlainIx b := by intro _ _; rfl) : J 𝒳 K C (.Subscript a b pos) Γ PP :=
  J.of (fun i => by have z := pe_ix (pos := pos) (ix_seq (X := 𝒳 i)) (stE_ok (e := a) i) (stE_ok (e := b) i) hs; rw [F.K i] at z; exact z) (xd_op ha hb fun x y px py R H u v w hu hv Q q => by
    obtain ⟨d, h1, h2⟩ := h x y px py
    exact h1.op R H u v w hu hv Q fun z e R' H' st dq ee => q z e R' H' st dq (by rw [ee]; exact h2))

/-! ### slices -/
theorem jp_none : JP 𝒳 K C none Γ none := JP.of (fun _ => po_none) fun H0 R H σ s w Q q => q R H (.refl w)
theorem jp_some {i : Int} (h : JD 𝒳 K C e Γ (.int i)) : JP 𝒳 K C (some e) Γ (some i) := JP.of (fun j => po_some (stE_ok j)) fun H0 R H σ s w Q q => h H0 R H σ s w _ fun v d R1 H1 s1 d1 e => by
  subst e
  cases d1
  exact ⟨i, rfl, q R1 H1 s1⟩
/-- the items of a slice -/
def cutD {α : Type} (xs : List α) (lo hi : Option Int) : List α := (xs.drop (HT.sIx xs.length 0 lo)).take (HT.sIx xs.length xs.length hi - HT.sIx xs.length 0 lo)
theorem dps_cut {R : Hp} {vs : List V} {ds : List PyData} {lo hi : Option Int} (h : DqAll K R vs ds) : DqAll K R (cutV vs lo hi) (cutD ds lo hi) := by
  unfold cutV cutD
  rw [dps_len h]
  exact dps_take _ (dps_drop _ h)
inductive SlD : PyData → Option Int → Option Int → PyData → Prop
  | list (ds : List PyData) (lo hi : Option Int) : SlD (.list ds) lo hi (.list (cutD ds lo hi))
  | tup (ds : List PyData) (lo hi : Option Int) : SlD (.tuple ds) lo hi (.tuple (cutD ds lo hi))
  | str (x : Str) (lo hi : Option Int) : x.length ≤ sizeLine → SlD (.str x) lo hi (.str (cutS x lo hi))
def rSlAny (K : PySem.W.Frag) : V → Option Int → Option Int → Hp → VK → Prop := fun x lo hi H Q => rSlL K x lo hi H Q ∨ (rSlA K x lo hi H Q ∨ rSlS x lo hi H Q)
theorem j_slice {p2 : Pos} {ol oh : Option Expr} {lo hi : Option Int} (F : Fam 𝒳 P w K mg base k) (ha : JD 𝒳 K C a Γ x) (hl : JP 𝒳 K C ol Γ lo) (hh : JP 𝒳 K C oh Γ hi) (h : SlD x lo hi d) : JD 𝒳 K C (.Subscript a (.Slice ol oh none p2) pos) Γ d :=
  J.of (te := tSl (rSlAny K) (stE 𝒳 a) (stO 𝒳 ol) (stO 𝒳 oh)) (fun i => by
    have z := pe_slice (pos := pos) (p2 := p2) (sl_list (X := 𝒳 i) |>.or (sl_tupA.or sl_str)) (stE_ok (e := a) i) (stO_ok (oe := ol) i) (stO_ok (oe := oh) i)
    rw [F.K i] at z
    exact z) fun H0 R H σ s w Q q => ha H0 R H σ s w _ fun u x' R1 H1 s1 d1 e1 => hl H0 R1 H1 σ (s.stp s1) s1.w _ fun R2 H2 s2 => hh H0 R2 H2 σ (s.stp (s1.trans s2)) s2.w _ fun R3 H3 s3 => by
      subst e1
      have d3 := dp_up (s2.r.trans s3.r) d1
      have s123 := (s1.trans s2).trans s3
      cases h with
      | list ds =>
        cases d3 with
        | @lst _ xs _ h1 a1 =>
          refine .inl ⟨_, _, rfl, .inl (rd_up s3.w.sub h1), fun p hp => ?_⟩
          have st := Stp.new s3.w (p := p) (o := .lst (cutV xs lo hi)) hp
          exact q _ _ _ _ (s123.trans st) (.lst (.inl upd_same) (dps_up st.r (dps_cut a1))) rfl
      | tup ds =>
        cases d3 with
        | @tup _ xs _ h1 a1 =>
          refine .inr (.inl ⟨_, _, rfl, sqT_up s3.w.sub h1, fun whole => ?_, fun _ p hp => ?_⟩)
          · have e : cutD ds lo hi = ds := by
              unfold cutD
              rw [← dps_len a1, whole.1, whole.2, List.drop_zero, Nat.sub_zero, dps_len a1, List.take_length]
            rw [e] at q
            exact q _ _ R3 H3 s123 (.tup h1 a1) rfl
          · have st := Stp.new s3.w (p := p) (o := .tup (cutV xs lo hi)) hp
            exact q _ _ _ _ (s123.trans st) (.tup (.inl (.inl upd_same)) (dps_up st.r (dps_cut a1))) rfl
      | str y lo hi hy =>
        cases d3
        exact .inr (.inr ⟨y, rfl, hy, q _ _ R3 H3 s123 (.str _) rfl⟩)
/-- the script's slice: a new list -/
theorem jo_sliceScr (i : Nat) {x : Str} {p2 ps : Pos} {ol oh : Option Expr} {lo hi : Option Int} {ns : List Int} (F : Fam 𝒳 P w K mg base k) (hl : JP 𝒳 K C ol Γ lo) (hh : JP 𝒳 K C oh Γ hi) (h : Γ[i]? = some (.scr ns) := by rfl) (hN : ∀ j, (𝒳 j).N[i]? = some x := by intro _; rfl) (hv : ∀ j, Vis (𝒳 j).env.scope x := by intro _; first | exact Or.inl rfl | exact Or.inr (Or.inl rfl) | exact Or.inr (Or.inr rfl))
    (hd : (x == ("__debug__" : Str)) = false := by decide) (hcd : (x == ("__classdict__" : Str)) = false := by decide) : JO 𝒳 K C (.Subscript (.Name x ps) (.Slice ol oh none p2) pos) Γ (· = (cutD ns lo hi).map .int) :=
  JO.of (te := tSl (rSlL K) (tVar i) (stO 𝒳 ol) (stO 𝒳 oh)) (fun j => by
    have z := pe_slice (pos := pos) (p2 := p2) (sl_list (X := 𝒳 j)) (pe_var (pos := ps) (hN j) (hv j) hd hcd) (stO_ok (oe := ol) j) (stO_ok (oe := oh) j)
    rw [F.K j] at z
    exact z) fun H0 R H σ s w Q q => by
      obtain ⟨v, h1, a, rfl, h3⟩ := s.get h (fun z => nomatch z)
      refine ⟨_, h1, hl H0 R H σ s w _ fun R2 H2 s2 => hh H0 R2 H2 σ (s.stp s2) s2.w _ fun R3 H3 s3 => ?_⟩
      refine ⟨a, _, rfl, s3.w.sub.seq (s3.r.seq (s2.r.seq h3)), fun p hp => ?_⟩
      have st := Stp.out s3.w (p := p) (o := .lst (cutV (ns.map V.int) lo hi)) hp
      refine q p _ _ _ _ ((s2.trans s3).trans st) ((s2.trans s3).still hp) upd_same ?_ (s3.w.sub.free hp) rfl
      have aux : ∀ l : List Int, DqAll K R3 (l.map V.int) (l.map .int) := by
        intro l
        induction l with
        | nil => exact .nil
        | cons n r ih => exact .cons (.int n) ih
      have e : cutV (ns.map V.int) lo hi = (cutD ns lo hi).map V.int := by
        unfold cutV cutD
        rw [List.length_map, List.map_take, List.map_drop]
      rw [e]
      exact aux _

/-! ### calls -/
/-- a def of the module -/
structure Df (K : PySem.W.Frag) (mg : Str → Option Value) (x : Str) (f : Addr) (fd : FuncData) (ps : List Str) : Prop where
  mg : mg x = some (.ref f)
  kp : PySem.W.keepIn K (.ref f) = true
  bd : Binds K fd ps []
variable {f : Addr} {fd : FuncData} {ps ks : List Str} {S : FS} {fx : Str} {pf : Pos} {PR : List Ent → Prop}
theorem Fam.pe_call (F : Fam 𝒳 P w K mg base k) (D : Df K mg fx f fd ps) (G : FnG P w K mg base j f fd ps (spG K S)) (hj : j ≤ k) (hg : ∀ i, Gl (𝒳 i) fx) (hdb : (fx == ("__debug__" : Str)) = false)
    (hs : ∀ i, starEach (e :: es) (𝒳 i).env = (false, eval e (𝒳 i).env) :: starEach es (𝒳 i).env) (pl : ∀ i, (backTo pos (starEach es (𝒳 i).env)).any (·.1) = false) (i : ι) : PE (𝒳 i) (.Call (.Name fx pf) (e :: es) [] pos) (tG (spG K S) (stA 𝒳 (e :: es))) :=
  pe_callG (by rw [F.pr i, F.wd i, F.K i, F.mg i, F.bs i]; exact G) ((F.rm i).mono hj) (F.gd i) (hg i) (by rw [F.mg i]; exact D.mg) (by rw [F.K i]; exact D.kp) (by rw [F.K i]; exact D.bd) (stA_ok i) hdb (hs i) (pl i)
theorem j_callI (F : Fam 𝒳 P w K mg base k) (D : Df K mg fx f fd ps) (G : FnG P w K mg base j f fd ps (spG K S)) (hk : S.κ = some κ') {i n0 : Nat} (ha : JAk 𝒳 K C κ (e :: es) Γ PR) (hp : ∀ rs, PR rs → ∃ a, rs = S.enc a ∧ S.ok C a ∧ ∀ r, S.res a r → ∃ d, r = .dat d ∧ PP d) (hi : Γ[i]? = some (.dck n0)) (hn : n0 + κ + κ' ≤ cap) (hj : j ≤ k := by first | decide | omega | exact Nat.le_refl _)
    (hg : ∀ i, Gl (𝒳 i) fx := by intro _; rfl) (hdb : (fx == ("__debug__" : Str)) = false := by decide) (hs : ∀ i, starEach (e :: es) (𝒳 i).env = (false, eval e (𝒳 i).env) :: starEach es (𝒳 i).env := by intro _; rfl) (pl : ∀ i, (backTo pos (starEach es (𝒳 i).env)).any (·.1) = false := by intro _; rfl) :
    Jk 𝒳 K C (κ + κ') (.Call (.Name fx pf) (e :: es) [] pos) Γ PP := J.of (F.pe_call D G hj hg hdb hs pl) (xd_callI hk ha hi hn hp)
theorem j_call (F : Fam 𝒳 P w K mg base k) (D : Df K mg fx f fd ps) (G : FnG P w K mg base j f fd ps (spG K S)) (ha : JAk 𝒳 K C κ (e :: es) Γ PR) (hp : ∀ rs, PR rs → ∃ a, rs = S.enc a ∧ S.Ok0 a ∧ ∀ r, S.res a r → ∃ d, r = .dat d ∧ PP d) (hj : j ≤ k := by first | decide | omega | exact Nat.le_refl _)
    (hg : ∀ i, Gl (𝒳 i) fx := by intro _; rfl) (hdb : (fx == ("__debug__" : Str)) = false := by decide) (hs : ∀ i, starEach (e :: es) (𝒳 i).env = (false, eval e (𝒳 i).env) :: starEach es (𝒳 i).env := by intro _; rfl) (pl : ∀ i, (backTo pos (starEach es (𝒳 i).env)).any (·.1) = false := by intro _; rfl) :
    Jk 𝒳 K C κ (.Call (.Name fx pf) (e :: es) [] pos) Γ PP := J.of (F.pe_call D G hj hg hdb hs pl) (xd_call ha hp)
/-- the arguments told, and what comes of them -/
theorem j_call1 (ar : S.α) (F : Fam 𝒳 P w K mg base k) (D : Df K mg fx f fd ps) (G : FnG P w K mg base j f fd ps (spG K S)) (ha : JAk 𝒳 K C κ (e :: es) Γ (· = S.enc ar)) (hp : S.Ok0 ar) (hq : ∀ r, S.res ar r → ∃ d, r = .dat d ∧ PP d) (hj : j ≤ k := by first | decide | omega | exact Nat.le_refl _)
    (hg : ∀ i, Gl (𝒳 i) fx := by intro _; rfl) (hdb : (fx == ("__debug__" : Str)) = false := by decide) (hs : ∀ i, starEach (e :: es) (𝒳 i).env = (false, eval e (𝒳 i).env) :: starEach es (𝒳 i).env := by intro _; rfl) (pl : ∀ i, (backTo pos (starEach es (𝒳 i).env)).any (·.1) = false := by intro _; rfl) :
    Jk 𝒳 K C κ (.Call (.Name fx pf) (e :: es) [] pos) Γ PP := J.of (F.pe_call D G hj hg hdb hs pl) (xd_call ha fun qs eq => ⟨ar, eq, hp, hq⟩)
theorem jo_callI {PO : List PyData → Prop} (F : Fam 𝒳 P w K mg base k) (D : Df K mg fx f fd ps) (G : FnG P w K mg base j f fd ps (spG K S)) (hk : S.κ = some κ') {i n0 : Nat} (ha : JAk 𝒳 K C κ (e :: es) Γ PR) (hp : ∀ rs, PR rs → ∃ a, rs = S.enc a ∧ S.ok C a ∧ ∀ r, S.res a r → ∃ d, r = .own d ∧ PO d) (hi : Γ[i]? = some (.dck n0)) (hn : n0 + κ + κ' ≤ cap) (hj : j ≤ k := by first | decide | omega | exact Nat.le_refl _)
    (hg : ∀ i, Gl (𝒳 i) fx := by intro _; rfl) (hdb : (fx == ("__debug__" : Str)) = false := by decide) (hs : ∀ i, starEach (e :: es) (𝒳 i).env = (false, eval e (𝒳 i).env) :: starEach es (𝒳 i).env := by intro _; rfl) (pl : ∀ i, (backTo pos (starEach es (𝒳 i).env)).any (·.1) = false := by intro _; rfl) :
    JOk 𝒳 K C (κ + κ') (.Call (.Name fx pf) (e :: es) [] pos) Γ PO := JO.of (F.pe_call D G hj hg hdb hs pl) (xo_callI hk ha hi hn hp)
theorem jo_call {PO : List PyData → Prop} (F : Fam 𝒳 P w K mg base k) (D : Df K mg fx f fd ps) (G : FnG P w K mg base j f fd ps (spG K S)) (ha : JAk 𝒳 K C κ (e :: es) Γ PR) (hp : ∀ rs, PR rs → ∃ a, rs = S.enc a ∧ S.Ok0 a ∧ ∀ r, S.res a r → ∃ d, r = .own d ∧ PO d) (hj : j ≤ k := by first | decide | omega | exact Nat.le_refl _)
    (hg : ∀ i, Gl (𝒳 i) fx := by intro _; rfl) (hdb : (fx == ("__debug__" : Str)) = false := by decide) (hs : ∀ i, starEach (e :: es) (𝒳 i).env = (false, eval e (𝒳 i).env) :: starEach es (𝒳 i).env := by intro _; rfl) (pl : ∀ i, (backTo pos (starEach es (𝒳 i).env)).any (·.1) = false := by intro _; rfl) :
    JOk 𝒳 K C κ (.Call (.Name fx pf) (e :: es) [] pos) Γ PO := JO.of (F.pe_call D G hj hg hdb hs pl) (xo_call ha hp)
theorem jo_call1 (ar : S.α) {PO : List PyData → Prop} (F : Fam 𝒳 P w K mg base k) (D : Df K mg fx f fd ps) (G : FnG P w K mg base j f fd ps (spG K S)) (ha : JAk 𝒳 K C κ (e :: es) Γ (· = S.enc ar)) (hp : S.Ok0 ar) (hq : ∀ r, S.res ar r → ∃ d, r = .own d ∧ PO d) (hj : j ≤ k := by first | decide | omega | exact Nat.le_refl _)
    (hg : ∀ i, Gl (𝒳 i) fx := by intro _; rfl) (hdb : (fx == ("__debug__" : Str)) = false := by decide) (hs : ∀ i, starEach (e :: es) (𝒳 i).env = (false, eval e (𝒳 i).env) :: starEach es (𝒳 i).env := by intro _; rfl) (pl : ∀ i, (backTo pos (starEach es (𝒳 i).env)).any (·.1) = false := by intro _; rfl) :
    JOk 𝒳 K C κ (.Call (.Name fx pf) (e :: es) [] pos) Γ PO := JO.of (F.pe_call D G hj hg hdb hs pl) (xo_call ha fun qs eq => ⟨ar, eq, hp, hq⟩)
theorem jk_nil : JK 𝒳 K C [] Γ (· = []) := JK.of (fun _ => pk_nil) xa_nil
theorem jk_cons {kws : List Keyword} {nm : Option Str} {kp : Pos} {rs : List Ent} (ha : JD 𝒳 K C e Γ x) (hb : JK 𝒳 K C kws Γ (· = rs)) : JK 𝒳 K C (⟨nm, e, kp⟩ :: kws) Γ (· = .dat x :: rs) := JK.of (fun i => pk_cons (stE_ok i) (stK_ok i)) (xa_cons1 ha hb)
/-- keywords alone: g puts them into the parameters' order -/
theorem j_callK {kws : List Keyword} {rs : List Ent} (ar : S.α) {g : List Value → List Value → List Value} {gV : List V → List V → List V} (gE : List Ent → List Ent) (F : Fam 𝒳 P w K mg base k) (D : Df K mg fx f fd ps) (G : FnG P w K mg base j f fd ps (spG K S)) (bd : KBinds K fd ps ks g gV) (hgE : ∀ R vs rs, Paired (AOk K C R) vs rs → Paired (AOk K C R) (gV [] vs) (gE rs))
    (ha : JK 𝒳 K C kws Γ (· = rs)) (he : gE rs = S.enc ar) (hp : S.Ok0 ar) (hq : ∀ r, S.res ar r → ∃ d, r = .dat d ∧ PP d) (hj : j ≤ k := by first | decide | omega | exact Nat.le_refl _) (hg : ∀ i, Gl (𝒳 i) fx := by intro _; rfl) (hdb : (fx == ("__debug__" : Str)) = false := by decide)
    (hall : ∀ i, (backToKw pos (keywordEach kws (𝒳 i).env)).all (·.1.isSome) = true := by intro _; rfl) (hks : ∀ i, (backToKw pos (keywordEach kws (𝒳 i).env)).filterMap (·.1) = ks := by intro _; rfl)
    (pl : ∀ i, ((backTo pos (starEach [] (𝒳 i).env)).any (·.1) || (backToKw pos (keywordEach kws (𝒳 i).env)).any (·.1.isNone)) = false := by intro _; rfl) : J 𝒳 K C (.Call (.Name fx pf) [] kws pos) Γ PP :=
  J.of (te := tGK (spG K S) gV tNil (stK 𝒳 kws)) (fun i => pe_callGK (by rw [F.pr i, F.wd i, F.K i, F.mg i, F.bs i]; exact G) ((F.rm i).mono hj) (F.gd i) (hg i) (by rw [F.mg i]; exact D.mg) (by rw [F.K i]; exact D.kp) (by rw [F.K i]; exact bd) (stK_ok i) (hall i) (hks i) hdb (pl i))
    (xd_callK hgE ha fun qs eq => ⟨ar, by rw [eq]; exact he, hp, hq⟩)
/-- a built-in function of one or more arguments, by values -/
theorem j_blt {id : String} {r : List V → Hp → VK → Prop} {ds : List PyData} (F : Fam 𝒳 P w K mg base k) (hc : ∀ i, CallR (𝒳 i) (.builtin id) r) (ha : JA 𝒳 K C (e :: es) Γ (· = dats ds)) (hr : OpC K C r ds PP) (hm : mg fx = none) (hv : bootBuiltins fx = some (.builtin id) := by decide +kernel)
    (hg : ∀ i, Gl (𝒳 i) fx := by intro _; rfl) (hn : fx ≠ "__name__" := by decide) (hdb : (fx == ("__debug__" : Str)) = false := by decide) (hs : ∀ i, starEach (e :: es) (𝒳 i).env = (false, eval e (𝒳 i).env) :: starEach es (𝒳 i).env := by intro _; rfl) (pl : ∀ i, (backTo pos (starEach es (𝒳 i).env)).any (·.1) = false := by intro _; rfl) :
    J 𝒳 K C (.Call (.Name fx pf) (e :: es) [] pos) Γ PP := J.of (fun i => pe_callB (hc i) (hg i) (by rw [F.mg i]; exact hm) hv (stA_ok i) hn hdb (hs i) (pl i)) (xd_cb1 ha hr)
theorem j_bltP {id : String} {r : List V → Hp → VK → Prop} {PL : List PyData → Prop} (F : Fam 𝒳 P w K mg base k) (hc : ∀ i, CallR (𝒳 i) (.builtin id) r) (ha : JAk 𝒳 K C κ (e :: es) Γ (fun rs => ∃ ds, rs = dats ds ∧ PL ds)) (hr : ∀ ds, PL ds → OpC K C r ds PP) (hm : mg fx = none) (hv : bootBuiltins fx = some (.builtin id) := by decide +kernel)
    (hg : ∀ i, Gl (𝒳 i) fx := by intro _; rfl) (hn : fx ≠ "__name__" := by decide) (hdb : (fx == ("__debug__" : Str)) = false := by decide) (hs : ∀ i, starEach (e :: es) (𝒳 i).env = (false, eval e (𝒳 i).env) :: starEach es (𝒳 i).env := by intro _; rfl) (pl : ∀ i, (backTo pos (starEach es (𝒳 i).env)).any (·.1) = false := by intro _; rfl) :
    Jk 𝒳 K C κ (.Call (.Name fx pf) (e :: es) [] pos) Γ PP := J.of (fun i => pe_callB (hc i) (hg i) (by rw [F.mg i]; exact hm) hv (stA_ok i) hn hdb (hs i) (pl i)) (xd_cb ha hr)
theorem j_ty {T : String} {r : List V → Hp → VK → Prop} {ds : List PyData} (F : Fam 𝒳 P w K mg base k) (hc : ∀ i, CallR (𝒳 i) (.type T) r) (ha : JA 𝒳 K C (e :: es) Γ (· = dats ds)) (hr : OpC K C r ds PP) (hm : mg fx = none) (hv : bootBuiltins fx = some (.type T) := by decide +kernel)
    (hg : ∀ i, Gl (𝒳 i) fx := by intro _; rfl) (hn : fx ≠ "__name__" := by decide) (hdb : (fx == ("__debug__" : Str)) = false := by decide) (hs : ∀ i, starEach (e :: es) (𝒳 i).env = (false, eval e (𝒳 i).env) :: starEach es (𝒳 i).env := by intro _; rfl) (pl : ∀ i, (backTo pos (starEach es (𝒳 i).env)).any (·.1) = false := by intro _; rfl) :
    J 𝒳 K C (.Call (.Name fx pf) (e :: es) [] pos) Γ PP := J.of (fun i => pe_callTy (hc i) (hg i) (by rw [F.mg i]; exact hm) hv (stA_ok i) hn hdb (hs i) (pl i)) (xd_cb1 ha hr)
theorem j_tyP {T : String} {r : List V → Hp → VK → Prop} {PL : List PyData → Prop} (F : Fam 𝒳 P w K mg base k) (hc : ∀ i, CallR (𝒳 i) (.type T) r) (ha : JAk 𝒳 K C κ (e :: es) Γ (fun rs => ∃ ds, rs = dats ds ∧ PL ds)) (hr : ∀ ds, PL ds → OpC K C r ds PP) (hm : mg fx = none) (hv : bootBuiltins fx = some (.type T) := by decide +kernel)
    (hg : ∀ i, Gl (𝒳 i) fx := by intro _; rfl) (hn : fx ≠ "__name__" := by decide) (hdb : (fx == ("__debug__" : Str)) = false := by decide) (hs : ∀ i, starEach (e :: es) (𝒳 i).env = (false, eval e (𝒳 i).env) :: starEach es (𝒳 i).env := by intro _; rfl) (pl : ∀ i, (backTo pos (starEach es (𝒳 i).env)).any (·.1) = false := by intro _; rfl) :
    Jk 𝒳 K C κ (.Call (.Name fx pf) (e :: es) [] pos) Γ PP := J.of (fun i => pe_callTy (hc i) (hg i) (by rw [F.mg i]; exact hm) hv (stA_ok i) hn hdb (hs i) (pl i)) (xd_cb ha hr)
/-- one argument -/
theorem ja_one (ha : JD 𝒳 K C e Γ x) (hs : ∀ i, starEach [e] (𝒳 i).env = (false, eval e (𝒳 i).env) :: starEach [] (𝒳 i).env := by intro _; rfl) : JA 𝒳 K C [e] Γ (· = dats [x]) := ja_cons ha ja_nil hs
theorem jak_oneP (ha : Jk 𝒳 K C κ e Γ PP) (hs : ∀ i, starEach [e] (𝒳 i).env = (false, eval e (𝒳 i).env) :: starEach [] (𝒳 i).env := by intro _; rfl) : JAk 𝒳 K C κ [e] Γ (fun rs => ∃ ds, rs = dats ds ∧ ∃ x, ds = [x] ∧ PP x) :=
  jak_consP (κ' := 0) ha (fun _ _ => ja_nil) (fun x rs px e => by subst e; exact ⟨[x], rfl, x, rfl, px⟩) hs
theorem ja_oneP (ha : J 𝒳 K C e Γ PP) (hs : ∀ i, starEach [e] (𝒳 i).env = (false, eval e (𝒳 i).env) :: starEach [] (𝒳 i).env := by intro _; rfl) : JA 𝒳 K C [e] Γ (fun rs => ∃ ds, rs = dats ds ∧ ∃ x, ds = [x] ∧ PP x) :=
  ja_consP ha (fun _ _ => ja_nil) (fun x rs px e => by subst e; exact ⟨[x], rfl, x, rfl, px⟩) hs
theorem opc_one {r : List V → Hp → VK → Prop} {x : PyData} {PP : PyData → Prop} (h : ∀ R H v, Wd C R H → Dq K R v x → ∀ Q : VK, (∀ z d R' H', Stp C R H R' H' → Dq K R' z d → PP d → Q z H') → r [v] H Q) : OpC K C r [x] PP := fun R H vs w a Q q => by
  cases a with
  | cons a1 a2 =>
    cases a2
    exact h R H _ w a1 Q q
/-- len -/
inductive LenD : PyData → Nat → Prop
  | list (ds : List PyData) : LenD (.list ds) ds.length
  | tup (ds : List PyData) : LenD (.tuple ds) ds.length
  | str (x : Str) : x.length ≤ sizeLine → LenD (.str x) x.length
theorem LenD.op {n : Nat} (h : LenD x n) : OpC K C (fun xs H Q => ∃ x n, xs = [x] ∧ LenV K x H n ∧ Q (.int n) H) [x] (· = .int n) := opc_one fun R H v w a Q q => by
  cases h with
  | list ds =>
    cases a with
    | lst h1 a1 => exact ⟨_, _, rfl, .inl ⟨_, .inl (rd_up w.sub h1), rfl⟩, q _ _ R H (.refl w) (.int _) (by rw [dps_len a1])⟩
  | tup ds =>
    cases a with
    | tup h1 a1 => exact ⟨_, _, rfl, .inr ⟨_, sqT_up w.sub h1, rfl⟩, q _ _ R H (.refl w) (.int _) (by rw [dps_len a1])⟩
  | str y hy =>
    cases a
    exact ⟨_, _, rfl, ⟨hy, rfl⟩, q _ _ R H (.refl w) (.int _) rfl⟩
theorem j_len {n : Nat} (F : Fam 𝒳 P w K mg base k) (hm : mg "len" = none) (ha : JD 𝒳 K C e Γ x) (h : LenD x n) (hg : ∀ i, Gl (𝒳 i) "len" := by intro _; rfl) (hs : ∀ i, starEach [e] (𝒳 i).env = (false, eval e (𝒳 i).env) :: starEach [] (𝒳 i).env := by intro _; rfl) :
    JD 𝒳 K C (.Call (.Name "len" pf) [e] [] pos) Γ (.int n) := j_blt F (fun i => by have z := call_len (X := 𝒳 i); rw [F.K i] at z; exact z) (ja_one ha hs) h.op hm boot_len hg (by decide) (by decide) hs (fun _ => rfl)
/-- int(..) of an int, of a bool -/
inductive IntD : PyData → Int → Prop
  | int (i : Int) : IntD (.int i) i
  | bool (b : Bool) : IntD (.bool b) (if b then 1 else 0)
theorem j_intC {n : Int} (F : Fam 𝒳 P w K mg base k) (hm : mg "int" = none) (ha : JD 𝒳 K C e Γ x) (h : IntD x n) (hg : ∀ i, Gl (𝒳 i) "int" := by intro _; rfl) (hs : ∀ i, starEach [e] (𝒳 i).env = (false, eval e (𝒳 i).env) :: starEach [] (𝒳 i).env := by intro _; rfl) :
    JD 𝒳 K C (.Call (.Name "int" pf) [e] [] pos) Γ (.int n) := j_ty F (fun i => call_int1) (ja_one ha hs) (opc_one fun R H v w a Q q => by
      cases h with
      | int i =>
        cases a
        exact .inl ⟨_, rfl, q _ _ R H (.refl w) (.int _) rfl⟩
      | bool b =>
        cases a
        exact .inr ⟨_, rfl, q _ _ R H (.refl w) (.int _) rfl⟩) hm (by decide +kernel) hg (by decide) (by decide) hs (fun _ => rfl)
/-- tuple(..), list(..) of a list or a tuple -/
inductive ItemsD : PyData → List PyData → Prop
  | list (ds : List PyData) : ItemsD (.list ds) ds
  | tup (ds : List PyData) : ItemsD (.tuple ds) ds
theorem ItemsD.tupOp {ds : List PyData} (h : ItemsD x ds) : OpC K C (fun xs H Q => ∃ p ys, xs = [.ref p] ∧ ((SqL K H p ys ∧ ∀ l, H l = none → Q (.ref l) (upd H l (.tup ys))) ∨ (SqT K H p ys ∧ Q (.ref p) H))) [x] (· = .tuple ds) := opc_one fun R H v w a Q q => by
  cases h with
  | list ds =>
    cases a with
    | @lst _ xs _ h1 a1 =>
      refine ⟨_, _, rfl, .inl ⟨.inl (rd_up w.sub h1), fun p hp => ?_⟩⟩
      have st := Stp.new w (p := p) (o := .tup xs) hp
      exact q _ _ _ _ st (.tup (.inl (.inl upd_same)) (dps_up st.r a1)) rfl
  | tup ds =>
    cases a with
    | tup h1 a1 => exact ⟨_, _, rfl, .inr ⟨sqT_up w.sub h1, q _ _ R H (.refl w) (.tup h1 a1) rfl⟩⟩
theorem j_tuple {ds : List PyData} (F : Fam 𝒳 P w K mg base k) (hm : mg "tuple" = none) (ha : JD 𝒳 K C e Γ x) (h : ItemsD x ds) (hg : ∀ i, Gl (𝒳 i) "tuple" := by intro _; rfl) (hs : ∀ i, starEach [e] (𝒳 i).env = (false, eval e (𝒳 i).env) :: starEach [] (𝒳 i).env := by intro _; rfl) :
    JD 𝒳 K C (.Call (.Name "tuple" pf) [e] [] pos) Γ (.tuple ds) := j_ty F (fun i => by have z := call_tuple_of (X := 𝒳 i); rw [F.K i] at z; exact z) (ja_one ha hs) h.tupOp hm boot_tuple hg (by decide) (by decide) hs (fun _ => rfl)
theorem j_tupleP {PL : List PyData → Prop} (F : Fam 𝒳 P w K mg base k) (hm : mg "tuple" = none) (ha : J 𝒳 K C e Γ (fun d => ∃ ds, d = .list ds ∧ PL ds)) (hg : ∀ i, Gl (𝒳 i) "tuple" := by intro _; rfl) (hs : ∀ i, starEach [e] (𝒳 i).env = (false, eval e (𝒳 i).env) :: starEach [] (𝒳 i).env := by intro _; rfl) :
    J 𝒳 K C (.Call (.Name "tuple" pf) [e] [] pos) Γ (fun d => ∃ ds, d = .tuple ds ∧ PL ds) := j_tyP F (fun i => by have z := call_tuple_of (X := 𝒳 i); rw [F.K i] at z; exact z) (ja_oneP ha hs) (fun ds ⟨x, e, l, e2, pl⟩ => by
      subst e e2
      exact fun R H vs w a Q q => (ItemsD.list l).tupOp R H vs w a Q fun z d R' H' st dq e => q z d R' H' st dq ⟨l, e, pl⟩) hm boot_tuple hg (by decide) (by decide) hs (fun _ => rfl)
theorem jo_list {ds : List PyData} (F : Fam 𝒳 P w K mg base k) (hm : mg "list" = none) (ha : JD 𝒳 K C e Γ x) (h : ItemsD x ds) (hg : ∀ i, Gl (𝒳 i) "list" := by intro _; rfl) (hs : ∀ i, starEach [e] (𝒳 i).env = (false, eval e (𝒳 i).env) :: starEach [] (𝒳 i).env := by intro _; rfl) :
    JO 𝒳 K C (.Call (.Name "list" pf) [e] [] pos) Γ (· = ds) :=
  JO.of (te := tCB (fun xs H Q => ∃ p ys, xs = [.ref p] ∧ (SqL K H p ys ∨ SqT K H p ys) ∧ ∀ l, H l = none → Q (.ref l) (upd H l (.lst ys))) (stA 𝒳 [e])) (fun i => by
    have z := pe_callTy (p := pf) (pos := pos) (call_list_of (X := 𝒳 i)) (hg i) (by rw [F.mg i]; exact hm) (by decide +kernel) (stA_ok (es := [e]) i) (by decide) (by decide) (hs i) rfl
    rw [F.K i] at z
    exact z) fun H0 R H σ s w Q q => ja_one ha hs H0 R H σ s w _ fun vs rs R1 H1 s1 a e => by
      subst e
      have a' := dats_ok (ds := [x]) a
      cases a' with
      | cons a1 a2 =>
        cases a2
        cases h with
        | list ds =>
          cases a1 with
          | lst h1 a1 => exact ⟨_, _, rfl, .inl (.inl (rd_up s1.w.sub h1)), fun l hl => q l _ _ _ _ (s1.trans (Stp.out s1.w hl)) (s1.still hl) upd_same a1 (s1.w.sub.free hl) rfl⟩
        | tup ds =>
          cases a1 with
          | tup h1 a1 => exact ⟨_, _, rfl, .inr (sqT_up s1.w.sub h1), fun l hl => q l _ _ _ _ (s1.trans (Stp.out s1.w hl)) (s1.still hl) upd_same a1 (s1.w.sub.free hl) rfl⟩

/-! ### what is walked, targets, comprehensions -/
theorem ji_seq {ds : List PyData} (F : Fam 𝒳 P w K mg base k) (ha : JD 𝒳 K C e Γ x) (h : SeqOf x ds) : JI 𝒳 K C tg e Γ (· = ds) := JI.of (te := iSeq K (stE 𝒳 e)) (fun i => by have z := pi_seq (X := 𝒳 i) (tg := tg) (stE_ok (𝒳 := 𝒳) (e := e) i); rw [F.K i] at z; exact z) (xi_seq ha h)
theorem ji_listP {PL : List PyData → Prop} (F : Fam 𝒳 P w K mg base k) (ha : J 𝒳 K C e Γ (fun d => ∃ ds, d = .list ds ∧ PL ds)) : JI 𝒳 K C tg e Γ PL := JI.of (te := iSeq K (stE 𝒳 e)) (fun i => by have z := pi_seq (X := 𝒳 i) (tg := tg) (stE_ok (𝒳 := 𝒳) (e := e) i); rw [F.K i] at z; exact z) (xi_listP ha)
theorem ji_rng1 {n : Int} (F : Fam 𝒳 P w K mg base k) (hm : mg "range" = none) (ha : JD 𝒳 K C e Γ (.int n)) (hn : -(2 ^ 62) ≤ n ∧ n < 2 ^ 62) (hg : ∀ i, Gl (𝒳 i) "range" := by intro _; rfl) (hs : ∀ i, starEach [e] (𝒳 i).env = (false, eval e (𝒳 i).env) :: starEach [] (𝒳 i).env := by intro _; rfl) :
    JI 𝒳 K C tg (.Call (.Name "range" pf) [e] [] pos) Γ (· = rng 0 n.toNat) := JI.of (fun i => pi_range1 (hg i) (by rw [F.mg i]; exact hm) (stA_ok i) (hs i)) (xi_rng1 (ja_one ha hs) hn)
theorem ji_rng2 {m n : Int} (F : Fam 𝒳 P w K mg base k) (hm : mg "range" = none) (ha : JD 𝒳 K C a Γ (.int m)) (hb : JD 𝒳 K C b Γ (.int n)) (h1 : -(2 ^ 62) ≤ m ∧ m < 2 ^ 62) (hn : -(2 ^ 62) ≤ n ∧ n < 2 ^ 62) (hg : ∀ i, Gl (𝒳 i) "range" := by intro _; rfl)
    (hs : ∀ i, starEach [a, b] (𝒳 i).env = [(false, eval a (𝒳 i).env), (false, eval b (𝒳 i).env)] := by intro _; rfl) (hs2 : ∀ i, starEach [b] (𝒳 i).env = [(false, eval b (𝒳 i).env)] := by intro _; rfl) :
    JI 𝒳 K C tg (.Call (.Name "range" pf) [a, b] [] pos) Γ (· = rng m (n - m).toNat) := JI.of (fun i => pi_range2 (hg i) (by rw [F.mg i]; exact hm) (stA_ok i) (hs i) (hs2 i)) (xi_rng2 (ja_cons ha (ja_one hb (fun i => by rw [hs2 i]; rfl)) (fun i => by rw [hs i, hs2 i])) h1 hn)
theorem ji_enum {ds : List PyData} {te : List Expr} {kk : Nat} {tp : Pos} (F : Fam 𝒳 P w K mg base k) (hm : mg "enumerate" = none) (ha : JD 𝒳 K C e Γ x) (h : SeqOf x ds) (hg : ∀ i, Gl (𝒳 i) "enumerate" := by intro _; rfl) (hs : ∀ i, starEach [e] (𝒳 i).env = (false, eval e (𝒳 i).env) :: starEach [] (𝒳 i).env := by intro _; rfl) :
    JI 𝒳 K C (.Tuple te kk tp) (.Call (.Name "enumerate" pf) [e] [] pos) Γ (· = enumd ds) :=
  JI.of (te := iEnumA K (stA 𝒳 [e])) (fun i => by have z := pi_enumA (X := 𝒳 i) (elts := te) (kk := kk) (tpos := tp) (p := pf) (pos := pos) (hg i) (by rw [F.mg i]; exact hm) (stA_ok (𝒳 := 𝒳) (es := [e]) i) (hs i); rw [F.K i] at z; exact z) (xi_enum (ja_one ha hs) h)
theorem jg_name (i : Nat) {x : Str} (F : Fam 𝒳 P w K mg base k) (hN : ∀ j, (𝒳 j).N[i]? = some x := by intro _; rfl) (hv : ∀ j, Loc (𝒳 j).env.scope x := by intro _; first | exact Or.inl rfl | exact Or.inr rfl) (hf : ∀ j, (𝒳 j).fn x = true ∨ (𝒳 j).env.scope.names.lookup x = some .local := by intro _; first | exact .inl rfl | exact .inr rfl) :
    JG 𝒳 K C (.Name x pos) [i] d Γ (Γ.set i (.dat d)) := JG.of (fun j => pg_name (F.nd j) (hN j) (hv j) (hf j)) xg_name
theorem jg_pair (i1 i2 : Nat) {n1 n2 : Str} {p1 p2 : Pos} {kk : Nat} (F : Fam 𝒳 P w K mg base k) (hN1 : ∀ j, (𝒳 j).N[i1]? = some n1 := by intro _; rfl) (hN2 : ∀ j, (𝒳 j).N[i2]? = some n2 := by intro _; rfl) (hv1 : ∀ j, Loc (𝒳 j).env.scope n1 := by intro _; first | exact Or.inl rfl | exact Or.inr rfl) (hv2 : ∀ j, Loc (𝒳 j).env.scope n2 := by intro _; first | exact Or.inl rfl | exact Or.inr rfl)
    (hf1 : ∀ j, (𝒳 j).fn n1 = true ∨ (𝒳 j).env.scope.names.lookup n1 = some .local := by intro _; first | exact .inl rfl | exact .inr rfl) (hf2 : ∀ j, (𝒳 j).fn n2 = true ∨ (𝒳 j).env.scope.names.lookup n2 = some .local := by intro _; first | exact .inl rfl | exact .inr rfl) :
    JG 𝒳 K C (.Tuple [.Name n1 p1, .Name n2 p2] kk pos) [i1, i2] (.tuple [x, y]) Γ ((Γ.set i1 (.dat x)).set i2 (.dat y)) :=
  JG.of (te := gTup K 2 (gCons (gName i1) (gCons (gName i2) gNil))) (fun j => by
    have z := pg_tup (X := 𝒳 j) (es := [.Name n1 p1, .Name n2 p2]) (k := kk) (pos := pos) (n := 2) (F.cm j) (pgs_cons (pg_name (F.nd j) (hN1 j) (hv1 j) (hf1 j)) (pgs_cons (pg_name (F.nd j) (hN2 j) (hv2 j) (hf2 j)) pgs_nil))
    rw [F.K j] at z
    exact z) xg_pair
/-- [e for tg in it if ..] -/
theorem jok_lc {elt iter : Expr} {ifs : List Expr} {scope : Scope} {js : List Nat} {PL : List PyData → Prop} {T : PyData → Bool → Prop} {E : PyData → PyData → Prop} {PO : List PyData → Prop} (own : List (Str × Nat)) (F : Fam 𝒳 P w K mg base k) {κ0 κt κe L : Nat} (hi : JIk 𝒳 K C κ0 tg iter Γ PL) (ok : ∀ i, BlkOk (𝒳 i).N (𝒳 i).env.scope scope own)
    (hv : ∀ v, v ∈ own.map (·.2) → Γ[v]? = some .unk) (hj : ∀ j, j ∈ js → j ∈ own.map (·.2)) (hl : ∀ ds, PL ds → ds.length ≤ 100000)
    (hL : ∀ ds, PL ds → ds.length ≤ L) (hb : ∀ ds d c, PL ds → d ∈ ds → c + (κt + κe) ≤ κ0 + L * (κt + κe) → ∃ Γ', JG (blkF 𝒳 scope) K C tg js d (bmp c Γ) Γ' ∧ XTk K C κt (stTs (blkF 𝒳 scope) ifs) Γ' (T d) ∧ (T d true → Jk (blkF 𝒳 scope) K C κe elt (bmp κt Γ') (E d))) (hp : ∀ ds es, PL ds → LcR T E ds es → PO es) (hs : ∀ i x, foldedSetIterable iter (𝒳 i).env x = pure x := by intro _ _; rfl) :
    JOk 𝒳 K C (κ0 + L * (κt + κe)) (.ListComp elt [⟨tg, iter, ifs, 0⟩] scope pos) Γ PO :=
  JO.of (fun i => pe_lc (F.cm i) (F.nd i) (stI_ok i) (ok i) (fun s H C cl fp => stG_ok (𝒳 := blkF 𝒳 scope) (i, s, H, C, cl, fp)) (fun s H C cl fp => stTs_ok (𝒳 := blkF 𝒳 scope) (i, s, H, C, cl, fp)) (fun s H C cl fp => stE_ok (𝒳 := blkF 𝒳 scope) (i, s, H, C, cl, fp)) (hs i)) (xok_lc hi hv hj hl hL hb hp)
/-- [e for tg in it if ..] -/
theorem jo_lc {elt iter : Expr} {ifs : List Expr} {scope : Scope} {js : List Nat} {PL : List PyData → Prop} {T : PyData → Bool → Prop} {E : PyData → PyData → Prop} {PO : List PyData → Prop} (own : List (Str × Nat)) (F : Fam 𝒳 P w K mg base k) (hi : JI 𝒳 K C tg iter Γ PL) (ok : ∀ i, BlkOk (𝒳 i).N (𝒳 i).env.scope scope own)
    (hv : ∀ v, v ∈ own.map (·.2) → Γ[v]? = some .unk) (hj : ∀ j, j ∈ js → j ∈ own.map (·.2)) (hl : ∀ ds, PL ds → ds.length ≤ 100000)
    (hb : ∀ ds d, PL ds → d ∈ ds → ∃ Γ', JG (blkF 𝒳 scope) K C tg js d Γ Γ' ∧ JTs (blkF 𝒳 scope) K C ifs Γ' (T d) ∧ (T d true → J (blkF 𝒳 scope) K C elt Γ' (E d))) (hp : ∀ ds es, PL ds → LcR T E ds es → PO es) (hs : ∀ i x, foldedSetIterable iter (𝒳 i).env x = pure x := by intro _ _; rfl) :
    JO 𝒳 K C (.ListComp elt [⟨tg, iter, ifs, 0⟩] scope pos) Γ PO :=
  JO.of (fun i => pe_lc (F.cm i) (F.nd i) (stI_ok i) (ok i) (fun s H C cl fp => stG_ok (𝒳 := blkF 𝒳 scope) (i, s, H, C, cl, fp)) (fun s H C cl fp => stTs_ok (𝒳 := blkF 𝒳 scope) (i, s, H, C, cl, fp)) (fun s H C cl fp => stE_ok (𝒳 := blkF 𝒳 scope) (i, s, H, C, cl, fp)) (hs i)) (xo_lc hi hv hj hl hb hp)
/-- all told: t the tests, f the elements -/
theorem jo_lc1 {elt iter : Expr} {ifs : List Expr} {scope : Scope} {js : List Nat} {ds : List PyData} (own : List (Str × Nat)) (t : PyData → Bool) (f : PyData → PyData) (F : Fam 𝒳 P w K mg base k) (hi : JI 𝒳 K C tg iter Γ (· = ds)) (ok : ∀ i, BlkOk (𝒳 i).N (𝒳 i).env.scope scope own)
    (hv : ∀ v, v ∈ own.map (·.2) → Γ[v]? = some .unk) (hj : ∀ j, j ∈ js → j ∈ own.map (·.2)) (hl : ds.length ≤ 100000)
    (hb : ∀ d, d ∈ ds → ∃ Γ', JG (blkF 𝒳 scope) K C tg js d Γ Γ' ∧ JTs (blkF 𝒳 scope) K C ifs Γ' (· = t d) ∧ (t d = true → JD (blkF 𝒳 scope) K C elt Γ' (f d))) (hs : ∀ i x, foldedSetIterable iter (𝒳 i).env x = pure x := by intro _ _; rfl) :
    JO 𝒳 K C (.ListComp elt [⟨tg, iter, ifs, 0⟩] scope pos) Γ (· = (ds.filter t).map f) :=
  JO.of (fun i => pe_lc (F.cm i) (F.nd i) (stI_ok i) (ok i) (fun s H C cl fp => stG_ok (𝒳 := blkF 𝒳 scope) (i, s, H, C, cl, fp)) (fun s H C cl fp => stTs_ok (𝒳 := blkF 𝒳 scope) (i, s, H, C, cl, fp)) (fun s H C cl fp => stE_ok (𝒳 := blkF 𝒳 scope) (i, s, H, C, cl, fp)) (hs i)) (xo_lc1 hi hv hj hl hb)
theorem jts_nil : JTs 𝒳 K C [] Γ (· = true) := JTs.of (fun _ => pts_nil) xt_yes
theorem jts_one {B : Bool → Prop} (h : JT 𝒳 K C e Γ B) : JTs 𝒳 K C [e] Γ B := JTs.of (fun i => pts_one (stT_ok i)) h

/-! ### statements -/
variable {N B Ct M : List Ent → Prop} {Rt : Ent → List Ent → Prop}
theorem js_nil : JS 𝒳 K C [] Γ (· = Γ) Rt B Ct := JS.of (fun _ => pss_nil) xs_next
theorem js_nilP (h : N Γ) : JS 𝒳 K C [] Γ N Rt B Ct := JS.of (fun _ => pss_nil) (xs_nextP h)
theorem js_cons (h1 : J1 𝒳 K C st Γ M Rt B Ct) (h2 : ∀ Γ', M Γ' → JS 𝒳 K C ss Γ' N Rt B Ct) : JS 𝒳 K C (st :: ss) Γ N Rt B Ct := JS.of (fun i => pss_cons (stS_ok i) (stSs_ok i)) (xs_seq h1 h2)
theorem js_cons1 {Γ1 : List Ent} (h1 : J1 𝒳 K C st Γ (· = Γ1) Rt B Ct) (h2 : JS 𝒳 K C ss Γ1 N Rt B Ct) : JS 𝒳 K C (st :: ss) Γ N Rt B Ct := js_cons h1 fun Γ' e => by
  subst e
  exact h2
theorem js_one (h : J1 𝒳 K C st Γ N Rt B Ct) : JS 𝒳 K C [st] Γ N Rt B Ct := JS.of (fun i => pss_one (stS_ok i)) h
theorem j1_pass : J1 𝒳 K C (.Pass pos) Γ (· = Γ) Rt B Ct := J1.of (fun _ => ps_pass) xs_next
theorem j1_brk (h : B Γ) : J1 𝒳 K C (.Break pos) Γ N Rt B Ct := J1.of (fun _ => ps_break) (xs_brk h)
theorem j1_cont (h : Ct Γ) : J1 𝒳 K C (.Continue pos) Γ N Rt B Ct := J1.of (fun _ => ps_continue) (xs_cont h)
/-- x = e -/
theorem j1k_set (i : Nat) {x : Str} {p2 : Pos} (F : Fam 𝒳 P w K mg base k) (he : Jk 𝒳 K C κ e Γ PP) (hn : ∀ d, PP d → N ((bmp κ Γ).set i (.dat d))) (hN : ∀ j, (𝒳 j).N[i]? = some x := by intro _; rfl) (hx : ∀ j, Loc (𝒳 j).env.scope x := by intro _; first | exact Or.inl rfl | exact Or.inr rfl)
    (hs : ∀ j, swapsWith e (some (.Name x p2)) pos.line (𝒳 j).env = pure false := by intro _; rfl) (hf : ∀ j, (𝒳 j).fn x = true ∨ (𝒳 j).env.scope.names.lookup x = some .local := by intro _; first | exact .inl rfl | exact .inr rfl) : J1 𝒳 K C (.Assign [.Name x p2] e pos) Γ N Rt B Ct :=
  J1.of (fun j => ps_set (F.nd j) (hN j) (hx j) (stE_ok j) (hs j) (hf j)) (xsk_asg he hn)
/-- x = e -/
theorem j1_set (i : Nat) {x : Str} {p2 : Pos} (F : Fam 𝒳 P w K mg base k) (he : J 𝒳 K C e Γ PP) (hn : ∀ d, PP d → N (Γ.set i (.dat d))) (hN : ∀ j, (𝒳 j).N[i]? = some x := by intro _; rfl) (hx : ∀ j, Loc (𝒳 j).env.scope x := by intro _; first | exact Or.inl rfl | exact Or.inr rfl)
    (hs : ∀ j, swapsWith e (some (.Name x p2)) pos.line (𝒳 j).env = pure false := by intro _; rfl) (hf : ∀ j, (𝒳 j).fn x = true ∨ (𝒳 j).env.scope.names.lookup x = some .local := by intro _; first | exact .inl rfl | exact .inr rfl) : J1 𝒳 K C (.Assign [.Name x p2] e pos) Γ N Rt B Ct :=
  J1.of (fun j => ps_set (F.nd j) (hN j) (hx j) (stE_ok j) (hs j) (hf j)) (xs_asg he hn)
theorem j1_set1 (i : Nat) {x : Str} {p2 : Pos} (F : Fam 𝒳 P w K mg base k) (he : JD 𝒳 K C e Γ d) (hN : ∀ j, (𝒳 j).N[i]? = some x := by intro _; rfl) (hx : ∀ j, Loc (𝒳 j).env.scope x := by intro _; first | exact Or.inl rfl | exact Or.inr rfl)
    (hs : ∀ j, swapsWith e (some (.Name x p2)) pos.line (𝒳 j).env = pure false := by intro _; rfl) (hf : ∀ j, (𝒳 j).fn x = true ∨ (𝒳 j).env.scope.names.lookup x = some .local := by intro _; first | exact .inl rfl | exact .inr rfl) : J1 𝒳 K C (.Assign [.Name x p2] e pos) Γ (· = Γ.set i (.dat d)) Rt B Ct :=
  j1_set i F he (fun _ e => by rw [e]) hN hx hs hf
/-- x = a new list, one's own -/
theorem j1k_setO (i : Nat) {x : Str} {p2 : Pos} {PO : List PyData → Prop} (F : Fam 𝒳 P w K mg base k) (he : JOk 𝒳 K C κ e Γ PO) (hn : ∀ d, PO d → N ((bmp κ Γ).set i (.own d))) (hN : ∀ j, (𝒳 j).N[i]? = some x := by intro _; rfl) (hx : ∀ j, Loc (𝒳 j).env.scope x := by intro _; first | exact Or.inl rfl | exact Or.inr rfl)
    (hs : ∀ j, swapsWith e (some (.Name x p2)) pos.line (𝒳 j).env = pure false := by intro _; rfl) (hf : ∀ j, (𝒳 j).fn x = true ∨ (𝒳 j).env.scope.names.lookup x = some .local := by intro _; first | exact .inl rfl | exact .inr rfl) : J1 𝒳 K C (.Assign [.Name x p2] e pos) Γ N Rt B Ct :=
  J1.of (fun j => ps_set (F.nd j) (hN j) (hx j) (stE_ok j) (hs j) (hf j)) (xsk_asgO he hn)
/-- x = a new list, one's own -/
theorem j1_setO (i : Nat) {x : Str} {p2 : Pos} {PO : List PyData → Prop} (F : Fam 𝒳 P w K mg base k) (he : JO 𝒳 K C e Γ PO) (hn : ∀ d, PO d → N (Γ.set i (.own d))) (hN : ∀ j, (𝒳 j).N[i]? = some x := by intro _; rfl) (hx : ∀ j, Loc (𝒳 j).env.scope x := by intro _; first | exact Or.inl rfl | exact Or.inr rfl)
    (hs : ∀ j, swapsWith e (some (.Name x p2)) pos.line (𝒳 j).env = pure false := by intro _; rfl) (hf : ∀ j, (𝒳 j).fn x = true ∨ (𝒳 j).env.scope.names.lookup x = some .local := by intro _; first | exact .inl rfl | exact .inr rfl) : J1 𝒳 K C (.Assign [.Name x p2] e pos) Γ N Rt B Ct :=
  J1.of (fun j => ps_set (F.nd j) (hN j) (hx j) (stE_ok j) (hs j) (hf j)) (xs_asgO he hn)
/-- x = [..], a comprehension on one line, x a plain local -/
theorem j1k_setLc (i : Nat) {y : Str} {py sp : Pos} {elt iter : Expr} {ifs : List Expr} {scope : Scope} {js : List Nat} {PL : List PyData → Prop} {T : PyData → Bool → Prop} {E : PyData → PyData → Prop} (own : List (Str × Nat)) (F : Fam 𝒳 P w K mg base k) {κ0 κt κe L : Nat} (hi : JIk 𝒳 K C κ0 tg iter Γ PL) (ok : ∀ i, BlkOk (𝒳 i).N (𝒳 i).env.scope scope own)
    (hv : ∀ v, v ∈ own.map (·.2) → Γ[v]? = some .unk) (hj : ∀ j, j ∈ js → j ∈ own.map (·.2)) (hl : ∀ ds, PL ds → ds.length ≤ 100000)
    (hL : ∀ ds, PL ds → ds.length ≤ L) (hb : ∀ ds d c, PL ds → d ∈ ds → c + (κt + κe) ≤ κ0 + L * (κt + κe) → ∃ Γ', JG (blkF 𝒳 scope) K C tg js d (bmp c Γ) Γ' ∧ XTk K C κt (stTs (blkF 𝒳 scope) ifs) Γ' (T d) ∧ (T d true → Jk (blkF 𝒳 scope) K C κe elt (bmp κt Γ') (E d))) (hp : ∀ ds es, PL ds → LcR T E ds es → N ((bmp (κ0 + L * (κt + κe)) Γ).set i (.dat (.list es))))
    (hN : ∀ j, (𝒳 j).N[i]? = some y := by intro _; rfl) (hy : ∀ j, (𝒳 j).env.scope.names.lookup y = some .local := by intro _; rfl) (hsw : ∀ j, swapsWith (.ListComp elt [⟨tg, iter, ifs, 0⟩] scope pos) (some (.Name y py)) sp.line (𝒳 j).env = pure true := by intro _; exact sw_true rfl rfl rfl (by decide +kernel)) (hs : ∀ i x, foldedSetIterable iter (𝒳 i).env x = pure x := by intro _ _; rfl) :
    J1 𝒳 K C (.Assign [.Name y py] (.ListComp elt [⟨tg, iter, ifs, 0⟩] scope pos) sp) Γ N Rt B Ct :=
  J1.of (fun j => ps_setLc (F.cm j) (F.nd j) (hN j) (hy j) (hsw j) (stI_ok j) (ok j) (fun s H C cl fp => stG_ok (𝒳 := blkF 𝒳 scope) (j, s, H, C, cl, fp)) (fun s H C cl fp => stTs_ok (𝒳 := blkF 𝒳 scope) (j, s, H, C, cl, fp)) (fun s H C cl fp => stE_ok (𝒳 := blkF 𝒳 scope) (j, s, H, C, cl, fp)) (hs j))
    (xsk_asg (P := fun d => ∃ es, d = .list es ∧ N ((bmp (κ0 + L * (κt + κe)) Γ).set i (.dat (.list es)))) (XOk.frz (xok_lc (PE' := fun es => N ((bmp (κ0 + L * (κt + κe)) Γ).set i (.dat (.list es)))) hi hv hj hl hL hb hp)) (fun d ⟨es, e, n⟩ => by rw [e]; exact n))
/-- x = [..], a comprehension on one line, x a plain local -/
theorem j1_setLc (i : Nat) {y : Str} {py sp : Pos} {elt iter : Expr} {ifs : List Expr} {scope : Scope} {js : List Nat} {PL : List PyData → Prop} {T : PyData → Bool → Prop} {E : PyData → PyData → Prop} (own : List (Str × Nat)) (F : Fam 𝒳 P w K mg base k) (hi : JI 𝒳 K C tg iter Γ PL) (ok : ∀ i, BlkOk (𝒳 i).N (𝒳 i).env.scope scope own)
    (hv : ∀ v, v ∈ own.map (·.2) → Γ[v]? = some .unk) (hj : ∀ j, j ∈ js → j ∈ own.map (·.2)) (hl : ∀ ds, PL ds → ds.length ≤ 100000)
    (hb : ∀ ds d, PL ds → d ∈ ds → ∃ Γ', JG (blkF 𝒳 scope) K C tg js d Γ Γ' ∧ JTs (blkF 𝒳 scope) K C ifs Γ' (T d) ∧ (T d true → J (blkF 𝒳 scope) K C elt Γ' (E d))) (hp : ∀ ds es, PL ds → LcR T E ds es → N (Γ.set i (.dat (.list es))))
    (hN : ∀ j, (𝒳 j).N[i]? = some y := by intro _; rfl) (hy : ∀ j, (𝒳 j).env.scope.names.lookup y = some .local := by intro _; rfl) (hsw : ∀ j, swapsWith (.ListComp elt [⟨tg, iter, ifs, 0⟩] scope pos) (some (.Name y py)) sp.line (𝒳 j).env = pure true := by intro _; exact sw_true rfl rfl rfl (by decide +kernel)) (hs : ∀ i x, foldedSetIterable iter (𝒳 i).env x = pure x := by intro _ _; rfl) :
    J1 𝒳 K C (.Assign [.Name y py] (.ListComp elt [⟨tg, iter, ifs, 0⟩] scope pos) sp) Γ N Rt B Ct :=
  J1.of (fun j => ps_setLc (F.cm j) (F.nd j) (hN j) (hy j) (hsw j) (stI_ok j) (ok j) (fun s H C cl fp => stG_ok (𝒳 := blkF 𝒳 scope) (j, s, H, C, cl, fp)) (fun s H C cl fp => stTs_ok (𝒳 := blkF 𝒳 scope) (j, s, H, C, cl, fp)) (fun s H C cl fp => stE_ok (𝒳 := blkF 𝒳 scope) (j, s, H, C, cl, fp)) (hs j))
    (xs_asg (P := fun d => ∃ es, d = .list es ∧ N (Γ.set i (.dat (.list es)))) (XO.frz (xo_lc (PE' := fun es => N (Γ.set i (.dat (.list es)))) hi hv hj hl hb hp)) (fun d ⟨es, e, n⟩ => by rw [e]; exact n))
/-- .. as a list of one's own -/
theorem j1k_setLcO (i : Nat) {y : Str} {py sp : Pos} {elt iter : Expr} {ifs : List Expr} {scope : Scope} {js : List Nat} {PL : List PyData → Prop} {T : PyData → Bool → Prop} {E : PyData → PyData → Prop} (own : List (Str × Nat)) (F : Fam 𝒳 P w K mg base k) {κ0 κt κe L : Nat} (hi : JIk 𝒳 K C κ0 tg iter Γ PL) (ok : ∀ i, BlkOk (𝒳 i).N (𝒳 i).env.scope scope own)
    (hv : ∀ v, v ∈ own.map (·.2) → Γ[v]? = some .unk) (hj : ∀ j, j ∈ js → j ∈ own.map (·.2)) (hl : ∀ ds, PL ds → ds.length ≤ 100000)
    (hL : ∀ ds, PL ds → ds.length ≤ L) (hb : ∀ ds d c, PL ds → d ∈ ds → c + (κt + κe) ≤ κ0 + L * (κt + κe) → ∃ Γ', JG (blkF 𝒳 scope) K C tg js d (bmp c Γ) Γ' ∧ XTk K C κt (stTs (blkF 𝒳 scope) ifs) Γ' (T d) ∧ (T d true → Jk (blkF 𝒳 scope) K C κe elt (bmp κt Γ') (E d))) (hp : ∀ ds es, PL ds → LcR T E ds es → N ((bmp (κ0 + L * (κt + κe)) Γ).set i (.own es)))
    (hN : ∀ j, (𝒳 j).N[i]? = some y := by intro _; rfl) (hy : ∀ j, (𝒳 j).env.scope.names.lookup y = some .local := by intro _; rfl) (hsw : ∀ j, swapsWith (.ListComp elt [⟨tg, iter, ifs, 0⟩] scope pos) (some (.Name y py)) sp.line (𝒳 j).env = pure true := by intro _; exact sw_true rfl rfl rfl (by decide +kernel)) (hs : ∀ i x, foldedSetIterable iter (𝒳 i).env x = pure x := by intro _ _; rfl) :
    J1 𝒳 K C (.Assign [.Name y py] (.ListComp elt [⟨tg, iter, ifs, 0⟩] scope pos) sp) Γ N Rt B Ct :=
  J1.of (fun j => ps_setLc (F.cm j) (F.nd j) (hN j) (hy j) (hsw j) (stI_ok j) (ok j) (fun s H C cl fp => stG_ok (𝒳 := blkF 𝒳 scope) (j, s, H, C, cl, fp)) (fun s H C cl fp => stTs_ok (𝒳 := blkF 𝒳 scope) (j, s, H, C, cl, fp)) (fun s H C cl fp => stE_ok (𝒳 := blkF 𝒳 scope) (j, s, H, C, cl, fp)) (hs j))
    (xsk_asgO (xok_lc (PE' := fun es => N ((bmp (κ0 + L * (κt + κe)) Γ).set i (.own es))) hi hv hj hl hL hb hp) (fun d n => n))
/-- .. as a list of one's own -/
theorem j1_setLcO (i : Nat) {y : Str} {py sp : Pos} {elt iter : Expr} {ifs : List Expr} {scope : Scope} {js : List Nat} {PL : List PyData → Prop} {T : PyData → Bool → Prop} {E : PyData → PyData → Prop} (own : List (Str × Nat)) (F : Fam 𝒳 P w K mg base k) (hi : JI 𝒳 K C tg iter Γ PL) (ok : ∀ i, BlkOk (𝒳 i).N (𝒳 i).env.scope scope own)
    (hv : ∀ v, v ∈ own.map (·.2) → Γ[v]? = some .unk) (hj : ∀ j, j ∈ js → j ∈ own.map (·.2)) (hl : ∀ ds, PL ds → ds.length ≤ 100000)
    (hb : ∀ ds d, PL ds → d ∈ ds → ∃ Γ', JG (blkF 𝒳 scope) K C tg js d Γ Γ' ∧ JTs (blkF 𝒳 scope) K C ifs Γ' (T d) ∧ (T d true → J (blkF 𝒳 scope) K C elt Γ' (E d))) (hp : ∀ ds es, PL ds → LcR T E ds es → N (Γ.set i (.own es)))
    (hN : ∀ j, (𝒳 j).N[i]? = some y := by intro _; rfl) (hy : ∀ j, (𝒳 j).env.scope.names.lookup y = some .local := by intro _; rfl) (hsw : ∀ j, swapsWith (.ListComp elt [⟨tg, iter, ifs, 0⟩] scope pos) (some (.Name y py)) sp.line (𝒳 j).env = pure true := by intro _; exact sw_true rfl rfl rfl (by decide +kernel)) (hs : ∀ i x, foldedSetIterable iter (𝒳 i).env x = pure x := by intro _ _; rfl) :
    J1 𝒳 K C (.Assign [.Name y py] (.ListComp elt [⟨tg, iter, ifs, 0⟩] scope pos) sp) Γ N Rt B Ct :=
  J1.of (fun j => ps_setLc (F.cm j) (F.nd j) (hN j) (hy j) (hsw j) (stI_ok j) (ok j) (fun s H C cl fp => stG_ok (𝒳 := blkF 𝒳 scope) (j, s, H, C, cl, fp)) (fun s H C cl fp => stTs_ok (𝒳 := blkF 𝒳 scope) (j, s, H, C, cl, fp)) (fun s H C cl fp => stE_ok (𝒳 := blkF 𝒳 scope) (j, s, H, C, cl, fp)) (hs j))
    (xs_asgO (xo_lc (PE' := fun es => N (Γ.set i (.own es))) hi hv hj hl hb hp) (fun d n => n))
/-- a, b = x, y: two plain locals -/
theorem xsk_par {i1 i2 : Nat} {ta : TA} {PL : List Ent → Prop} (h : XAk K C κ ta Γ PL) (hn : ∀ rs, PL rs → ∃ x y, rs = [.dat x, .dat y] ∧ N (((bmp κ Γ).set i1 (.dat x)).set i2 (.dat y))) : XS K C (tPar i1 i2 ta) Γ N Rt B Ct := fun H0 R0 H R σ D a n r b c =>
  h H0 R H σ a.d a.s.w _ fun vs rs R1 H1 s1 ar pl => by
    obtain ⟨x, y, e, hn⟩ := hn rs pl
    subst e
    cases ar with
    | cons a1 a2 =>
      cases a2 with
      | cons a3 a4 =>
        cases a4
        exact ⟨_, _, rfl, n _ H1 R1 _ hn s1.r ⟨a.s.trans s1.toStU, ((a.d.stpK s1).setD a1).setD a3⟩⟩
/-- a, b = x, y: two plain locals -/
theorem xs_par {i1 i2 : Nat} {ta : TA} {PL : List Ent → Prop} (h : XA K C ta Γ PL) (hn : ∀ rs, PL rs → ∃ x y, rs = [.dat x, .dat y] ∧ N ((Γ.set i1 (.dat x)).set i2 (.dat y))) : XS K C (tPar i1 i2 ta) Γ N Rt B Ct := fun H0 R0 H R σ D a n r b c =>
  h H0 R H σ a.d a.s.w _ fun vs rs R1 H1 s1 ar pl => by
    obtain ⟨x, y, e, hn⟩ := hn rs pl
    subst e
    cases ar with
    | cons a1 a2 =>
      cases a2 with
      | cons a3 a4 =>
        cases a4
        exact ⟨_, _, rfl, n _ H1 R1 _ hn s1.r ⟨a.s.trans s1.toStU, ((a.d.stp s1).setD a1).setD a3⟩⟩
theorem j1k_par (i1 i2 : Nat) {n1 n2 : Str} {p1 p2 pt pt2 : Pos} {k1 k2 : Nat} {PL : List Ent → Prop} (F : Fam 𝒳 P w K mg base k) (h : JAk 𝒳 K C κ [a, b] Γ PL) (hn : ∀ rs, PL rs → ∃ x y, rs = [.dat x, .dat y] ∧ N (((bmp κ Γ).set i1 (.dat x)).set i2 (.dat y))) (hN1 : ∀ j, (𝒳 j).N[i1]? = some n1 := by intro _; rfl) (hN2 : ∀ j, (𝒳 j).N[i2]? = some n2 := by intro _; rfl) (hij : i1 ≠ i2 := by decide)
    (hx : ∀ j, (𝒳 j).env.scope.names.lookup n1 = some .local := by intro _; rfl) (hy : ∀ j, (𝒳 j).env.scope.names.lookup n2 = some .local := by intro _; rfl) (hw : ∀ j, swappedStores [.Tuple [.Name n1 p1, .Name n2 p2] k1 pt] (.Tuple [a, b] k2 pt2) (𝒳 j).env = pure (some [n1, n2]) := by intro _; rfl)
    (hs : ∀ j, swapsWithSole [.Tuple [.Name n1 p1, .Name n2 p2] k1 pt] (.Tuple [a, b] k2 pt2) pos.line (𝒳 j).env = pure false := by intro _; rfl) : J1 𝒳 K C (.Assign [.Tuple [.Name n1 p1, .Name n2 p2] k1 pt] (.Tuple [a, b] k2 pt2) pos) Γ N Rt B Ct :=
  J1.of (fun j => ps_par (F.cm j) (F.nd j) (hN1 j) (hN2 j) hij (hx j) (hy j) (stA_ok j) (hw j) (hs j)) (xsk_par h hn)
theorem j1_par (i1 i2 : Nat) {n1 n2 : Str} {p1 p2 pt pt2 : Pos} {k1 k2 : Nat} {PL : List Ent → Prop} (F : Fam 𝒳 P w K mg base k) (h : JA 𝒳 K C [a, b] Γ PL) (hn : ∀ rs, PL rs → ∃ x y, rs = [.dat x, .dat y] ∧ N ((Γ.set i1 (.dat x)).set i2 (.dat y))) (hN1 : ∀ j, (𝒳 j).N[i1]? = some n1 := by intro _; rfl) (hN2 : ∀ j, (𝒳 j).N[i2]? = some n2 := by intro _; rfl) (hij : i1 ≠ i2 := by decide)
    (hx : ∀ j, (𝒳 j).env.scope.names.lookup n1 = some .local := by intro _; rfl) (hy : ∀ j, (𝒳 j).env.scope.names.lookup n2 = some .local := by intro _; rfl) (hw : ∀ j, swappedStores [.Tuple [.Name n1 p1, .Name n2 p2] k1 pt] (.Tuple [a, b] k2 pt2) (𝒳 j).env = pure (some [n1, n2]) := by intro _; rfl)
    (hs : ∀ j, swapsWithSole [.Tuple [.Name n1 p1, .Name n2 p2] k1 pt] (.Tuple [a, b] k2 pt2) pos.line (𝒳 j).env = pure false := by intro _; rfl) : J1 𝒳 K C (.Assign [.Tuple [.Name n1 p1, .Name n2 p2] k1 pt] (.Tuple [a, b] k2 pt2) pos) Γ N Rt B Ct :=
  J1.of (fun j => ps_par (F.cm j) (F.nd j) (hN1 j) (hN2 j) hij (hx j) (hy j) (stA_ok j) (hw j) (hs j)) (xs_par h hn)
/-- a, b = e -/
theorem j1k_asg {js : List Nat} (he : Jk 𝒳 K C κ e Γ PP) (hg : ∀ d, PP d → ∃ Γ', JG 𝒳 K C tg js d (bmp κ Γ) Γ' ∧ N Γ') (hs : ∀ i, swapsWithSole [tg] e pos.line (𝒳 i).env = pure false := by intro _; rfl) (hw : ∀ i, swappedStores [tg] e (𝒳 i).env = pure none := by intro _; rfl)
    (h1 : ∀ i, (assignEach [tg] (𝒳 i).env).map (·.2) = [assign tg (𝒳 i).env] := by intro _; rfl) : J1 𝒳 K C (.Assign [tg] e pos) Γ N Rt B Ct := J1.of (fun i => ps_asg (stE_ok i) (stG_ok i) (hs i) (hw i) (h1 i)) (xsk_asgG he hg)
/-- a, b = e -/
theorem j1_asg {js : List Nat} (he : J 𝒳 K C e Γ PP) (hg : ∀ d, PP d → ∃ Γ', JG 𝒳 K C tg js d Γ Γ' ∧ N Γ') (hs : ∀ i, swapsWithSole [tg] e pos.line (𝒳 i).env = pure false := by intro _; rfl) (hw : ∀ i, swappedStores [tg] e (𝒳 i).env = pure none := by intro _; rfl)
    (h1 : ∀ i, (assignEach [tg] (𝒳 i).env).map (·.2) = [assign tg (𝒳 i).env] := by intro _; rfl) : J1 𝒳 K C (.Assign [tg] e pos) Γ N Rt B Ct := J1.of (fun i => ps_asg (stE_ok i) (stG_ok i) (hs i) (hw i) (h1 i)) (xs_asgG he hg)
theorem j1k_expr (he : Jk 𝒳 K C κ e Γ PP) (hn : N (bmp κ Γ)) (hs : ∀ i, swapsWith e none pos.line (𝒳 i).env = pure false := by intro _; rfl) : J1 𝒳 K C (.Expr e pos) Γ N Rt B Ct := J1.of (fun i => ps_expr (stE_ok i) (hs i)) (xsk_drop he hn)
theorem j1_expr (he : J 𝒳 K C e Γ PP) (hn : N Γ) (hs : ∀ i, swapsWith e none pos.line (𝒳 i).env = pure false := by intro _; rfl) : J1 𝒳 K C (.Expr e pos) Γ N Rt B Ct := J1.of (fun i => ps_expr (stE_ok i) (hs i)) (xs_drop he hn)
theorem j1k_ret (he : Jk 𝒳 K C κ e Γ PP) (hr : ∀ d, PP d → Rt (.dat d) (bmp κ Γ)) : J1 𝒳 K C (.Return (some e) pos) Γ N Rt B Ct := J1.of (fun i => ps_ret (stE_ok i)) (xsk_ret he hr)
theorem j1_ret (he : J 𝒳 K C e Γ PP) (hr : ∀ d, PP d → Rt (.dat d) Γ) : J1 𝒳 K C (.Return (some e) pos) Γ N Rt B Ct := J1.of (fun i => ps_ret (stE_ok i)) (xs_ret he hr)
theorem j1_ret1 (he : JD 𝒳 K C e Γ d) (hr : Rt (.dat d) Γ) : J1 𝒳 K C (.Return (some e) pos) Γ N Rt B Ct := j1_ret he fun _ e => by rw [e]; exact hr
theorem j1k_retO {PO : List PyData → Prop} (he : JOk 𝒳 K C κ e Γ PO) (hr : ∀ d, PO d → Rt (.own d) (bmp κ Γ)) : J1 𝒳 K C (.Return (some e) pos) Γ N Rt B Ct := J1.of (fun i => ps_ret (stE_ok i)) (xsk_retO he hr)
theorem j1_retO {PO : List PyData → Prop} (he : JO 𝒳 K C e Γ PO) (hr : ∀ d, PO d → Rt (.own d) Γ) : J1 𝒳 K C (.Return (some e) pos) Γ N Rt B Ct := J1.of (fun i => ps_ret (stE_ok i)) (xs_retO he hr)
theorem j1_retV (i : Nat) {x : Str} {p2 : Pos} {ds : List PyData} (hr : Rt (.own ds) Γ) (h : Γ[i]? = some (.own ds) := by rfl) (hN : ∀ j, (𝒳 j).N[i]? = some x := by intro _; rfl) (hv : ∀ j, Vis (𝒳 j).env.scope x := by intro _; first | exact Or.inl rfl | exact Or.inr (Or.inl rfl) | exact Or.inr (Or.inr rfl))
    (hd : (x == ("__debug__" : Str)) = false := by decide) (hcd : (x == ("__classdict__" : Str)) = false := by decide) : J1 𝒳 K C (.Return (some (.Name x p2)) pos) Γ N Rt B Ct := J1.of (fun j => ps_ret (pe_var (hN j) (hv j) hd hcd)) (xs_retV h hr)
theorem j1k_if {o : List Stmt} {Bp : Bool → Prop} (h : JTk 𝒳 K C κ e Γ Bp) (h1 : Bp true → JS 𝒳 K C ss (bmp κ Γ) N Rt B Ct) (h2 : Bp false → JS 𝒳 K C o (bmp κ Γ) N Rt B Ct) : J1 𝒳 K C (.If e ss o pos) Γ N Rt B Ct := J1.of (fun i => ps_if (stT_ok i) (stSs_ok i) (stSs_ok i)) (xsk_if h h1 h2)
theorem j1_if {o : List Stmt} {Bp : Bool → Prop} (h : JT 𝒳 K C e Γ Bp) (h1 : Bp true → JS 𝒳 K C ss Γ N Rt B Ct) (h2 : Bp false → JS 𝒳 K C o Γ N Rt B Ct) : J1 𝒳 K C (.If e ss o pos) Γ N Rt B Ct := J1.of (fun i => ps_if (stT_ok i) (stSs_ok i) (stSs_ok i)) (xs_if h h1 h2)
theorem j1_if1 {o : List Stmt} {p : Bool} (h : JT 𝒳 K C e Γ (· = p)) (h1 : p = true → JS 𝒳 K C ss Γ N Rt B Ct) (h2 : p = false → JS 𝒳 K C o Γ N Rt B Ct) : J1 𝒳 K C (.If e ss o pos) Γ N Rt B Ct := j1_if h (fun e => h1 e.symm) fun e => h2 e.symm
theorem j1k_for {iter : Expr} {js : List Nat} {PL : List PyData → Prop} (I : List PyData → Nat → List Ent → Prop) (F : Fam 𝒳 P w K mg base k) (hi : JIk 𝒳 K C κ tg iter Γ PL) (h0 : ∀ ds, PL ds → I ds 0 (bmp κ Γ))
    (hb : ∀ ds i d Γ1, PL ds → ds[i]? = some d → I ds i Γ1 → ∃ Γ2, JG 𝒳 K C tg js d Γ1 Γ2 ∧ JS 𝒳 K C ss Γ2 (I ds (i + 1)) Rt N (I ds (i + 1))) (hd : ∀ ds Γ1, PL ds → I ds ds.length Γ1 → N Γ1) (hs : ∀ i x, foldedSetIterable iter (𝒳 i).env x = pure x := by intro _ _; rfl) :
    J1 𝒳 K C (.For tg iter ss [] pos) Γ N Rt B Ct := J1.of (fun i => ps_for (F.nv i) (F.cm i) (stI_ok i) (stG_ok i) (stSs_ok i) (hs i)) (xsk_for hi I h0 hb hd)
theorem j1_for {iter : Expr} {js : List Nat} {PL : List PyData → Prop} (I : List PyData → Nat → List Ent → Prop) (F : Fam 𝒳 P w K mg base k) (hi : JI 𝒳 K C tg iter Γ PL) (h0 : ∀ ds, PL ds → I ds 0 Γ)
    (hb : ∀ ds i d Γ1, PL ds → ds[i]? = some d → I ds i Γ1 → ∃ Γ2, JG 𝒳 K C tg js d Γ1 Γ2 ∧ JS 𝒳 K C ss Γ2 (I ds (i + 1)) Rt N (I ds (i + 1))) (hd : ∀ ds Γ1, PL ds → I ds ds.length Γ1 → N Γ1) (hs : ∀ i x, foldedSetIterable iter (𝒳 i).env x = pure x := by intro _ _; rfl) :
    J1 𝒳 K C (.For tg iter ss [] pos) Γ N Rt B Ct := J1.of (fun i => ps_for (F.nv i) (F.cm i) (stI_ok i) (stG_ok i) (stSs_ok i) (hs i)) (xs_for hi I h0 hb hd)
theorem j1_while {Bp : List Ent → Bool → Prop} (I : Nat → List Ent → Prop) (F : Fam 𝒳 P w K mg base k) (m0 : Nat) (h0 : I m0 Γ) (ht : ∀ m Γ1, I m Γ1 → JT 𝒳 K C e Γ1 (Bp Γ1))
    (hb : ∀ m Γ1, I m Γ1 → Bp Γ1 true → JS 𝒳 K C ss Γ1 (fun Γ2 => ∃ m', m' < m ∧ I m' Γ2) Rt N (fun Γ2 => ∃ m', m' < m ∧ I m' Γ2)) (hd : ∀ m Γ1, I m Γ1 → Bp Γ1 false → N Γ1) : J1 𝒳 K C (.While e ss [] pos) Γ N Rt B Ct :=
  J1.of (fun i => ps_while (F.nv i) (stT_ok i) (stSs_ok i)) (xs_while I m0 h0 ht hb hd)
/-- xs.append(e) -/
theorem j1k_append (i : Nat) {x : Str} {p1 p2 p3 : Pos} {ds : List PyData} (F : Fam 𝒳 P w K mg base k) (he : Jk 𝒳 K C κ e Γ PP) (hl : ds.length < 1000000) (hn : ∀ d, PP d → N ((bmp κ Γ).set i (.own (ds ++ [d])))) (h : Γ[i]? = some (.own ds) := by rfl) (hN : ∀ j, (𝒳 j).N[i]? = some x := by intro _; rfl) (hv : ∀ j, Vis (𝒳 j).env.scope x := by intro _; first | exact Or.inl rfl | exact Or.inr (Or.inl rfl) | exact Or.inr (Or.inr rfl))
    (hd : (x == ("__debug__" : Str)) = false := by decide) (hcd : (x == ("__classdict__" : Str)) = false := by decide) (hbase : ∀ j, attributeBase (.Name x p1) "append" (𝒳 j).env (eval (.Name x p1) (𝒳 j).env) = eval (.Name x p1) (𝒳 j).env := by intro _; rfl)
    (hfew : ∀ j, ((backTo p3 (starEach [e] (𝒳 j).env)).all (fun x => !x.1) && (backToKw p3 (keywordEach [] (𝒳 j).env)).all (fun x => x.1.isSome) && decide ([e].length + ([] : List Keyword).length + (if ([] : List Keyword).isEmpty then 0 else 1) < 30)) = true := by intro _; rfl)
    (hline : (p2.endLine == p3.line) = true := by rfl) (hs : ∀ j, starEach [e] (𝒳 j).env = (false, eval e (𝒳 j).env) :: starEach [] (𝒳 j).env := by intro _; rfl) (hsw : ∀ j, swapsWith (.Call (.Attribute (.Name x p1) "append" p2) [e] [] p3) none pos.line (𝒳 j).env = pure false := by intro _; rfl) :
    J1 𝒳 K C (.Expr (.Call (.Attribute (.Name x p1) "append" p2) [e] [] p3) pos) Γ N Rt B Ct :=
  J1.of (te := tDrop (tBM K "list" rAppend (tVar i) (tCons (stE 𝒳 e) tNil))) (fun j => ps_expr (by
    have z := pe_bm PySem.F.plainAttrs_list PySem.F.slot_list_append PySem.F.type_list_append mt_append (pe_var (pos := p1) (hN j) (hv j) hd hcd) (pa_cons (stE_ok (e := e) j) pa_nil (hs j)) (hbase j) (hfew j) hline (hs j) rfl
    rw [F.K j] at z
    exact z) (hsw j)) (xsk_append h he hl hn)
/-- xs.append(e) -/
theorem j1_append (i : Nat) {x : Str} {p1 p2 p3 : Pos} {ds : List PyData} (F : Fam 𝒳 P w K mg base k) (he : J 𝒳 K C e Γ PP) (hl : ds.length < 1000000) (hn : ∀ d, PP d → N (Γ.set i (.own (ds ++ [d])))) (h : Γ[i]? = some (.own ds) := by rfl) (hN : ∀ j, (𝒳 j).N[i]? = some x := by intro _; rfl) (hv : ∀ j, Vis (𝒳 j).env.scope x := by intro _; first | exact Or.inl rfl | exact Or.inr (Or.inl rfl) | exact Or.inr (Or.inr rfl))
    (hd : (x == ("__debug__" : Str)) = false := by decide) (hcd : (x == ("__classdict__" : Str)) = false := by decide) (hbase : ∀ j, attributeBase (.Name x p1) "append" (𝒳 j).env (eval (.Name x p1) (𝒳 j).env) = eval (.Name x p1) (𝒳 j).env := by intro _; rfl)
    (hfew : ∀ j, ((backTo p3 (starEach [e] (𝒳 j).env)).all (fun x => !x.1) && (backToKw p3 (keywordEach [] (𝒳 j).env)).all (fun x => x.1.isSome) && decide ([e].length + ([] : List Keyword).length + (if ([] : List Keyword).isEmpty then 0 else 1) < 30)) = true := by intro _; rfl)
    (hline : (p2.endLine == p3.line) = true := by rfl) (hs : ∀ j, starEach [e] (𝒳 j).env = (false, eval e (𝒳 j).env) :: starEach [] (𝒳 j).env := by intro _; rfl) (hsw : ∀ j, swapsWith (.Call (.Attribute (.Name x p1) "append" p2) [e] [] p3) none pos.line (𝒳 j).env = pure false := by intro _; rfl) :
    J1 𝒳 K C (.Expr (.Call (.Attribute (.Name x p1) "append" p2) [e] [] p3) pos) Γ N Rt B Ct :=
  J1.of (te := tDrop (tBM K "list" rAppend (tVar i) (tCons (stE 𝒳 e) tNil))) (fun j => ps_expr (by
    have z := pe_bm PySem.F.plainAttrs_list PySem.F.slot_list_append PySem.F.type_list_append mt_append (pe_var (pos := p1) (hN j) (hv j) hd hcd) (pa_cons (stE_ok (e := e) j) pa_nil (hs j)) (hbase j) (hfew j) hline (hs j) rfl
    rw [F.K j] at z
    exact z) (hsw j)) (xs_append h he hl hn)
end
end DL

/-! DLf: repr, isinstance, repeated tuples, in data. -/
namespace DL
open PySem PySem.Spec PyProof.Rows L2

/-! ### repr -/
theorem dq_reads {X : Cx} {pins : List (Addr × Obj)} {σ : L2.St} {H : Hp} {s : Shared} (I : Inv X pins σ H s) {v : V} {u : Value} {d : PyData} (hd : d.canLay0 = true) (h : Dq X.K H v d) (r : RelV v u) : ∃ as, Reads s.heap u d as := Dp.reads I d v u (dq_dp hd h) r
/-- what repr needs -/
def rRepr (K : PySem.W.Frag) : List V → Hp → VK → Prop := fun xs H Q => ∃ (x : V) (d : PyData), xs = [x] ∧ Dq K H x d ∧ d.canLay0 = true ∧ d.showable = true ∧ d.depth ≤ 60 ∧ d.shown.length ≤ sizeLine ∧ Q (.str d.shown) H
theorem call_reprD {X : Cx} (hg : X.A.guards = some []) (hu : X.A.units + 65 < cLine) : CallR X (.builtin "repr") (rRepr X.K) := by
  intro pins s σ H xs us Q I r h
  obtain ⟨x, d, rfl, hd, hl, hs, hn, hz, q⟩ := h
  obtain ⟨u, rfl, ru⟩ := vals1 r
  obtain ⟨as, rd⟩ := dq_reads I hl hd ru
  have big : ∀ {a : Addr}, u = .ref a → wpAny (model X.prog X.w) X.A (call (.builtin "repr") [u]) (EP X pins σ Q) X.xe s := fun {a} e => by
    subst e
    exact repr_of_reads' rd hs (PyData.noDict_hsm (PyData.hasDict_of_canLay d hl)) hg (by omega) (fun _ _ z => z) (fun h' t tk hk => ⟨.str d.shown, H, I.kept hk, ⟨t, rfl⟩, q⟩) hz
  cases hd with
  | non =>
    cases ru
    exact PySem.P.repr_of_none ⟨.str _, H, I.tok _, ⟨_, rfl⟩, q⟩
  | bl b =>
    cases ru
    exact PySem.P.repr_of_bool ⟨.str _, H, I.tok _, ⟨_, rfl⟩, q⟩
  | int i =>
    obtain ⟨t, rfl⟩ := ru
    exact PySem.P.repr_of_int (by simpa [PyData.showable] using hs) ⟨.str _, H, I.tok _, ⟨_, rfl⟩, q⟩
  | str y =>
    obtain ⟨t, rfl⟩ := ru
    exact PySem.P.repr_of_str ⟨.str _, H, I.tok _, ⟨_, rfl⟩, q⟩ hz
  | lst _ _ => exact big ru
  | tup _ _ => exact big ru
  | dct _ _ _ => exact big ru
section
variable {ι : Type} {𝒳 : ι → Cx} {P : Program} {w : World} {K : PySem.W.Frag} {mg : Str → Option Value} {base : Heap} {k j κ κ' : Nat} {C : Ctx} {Γ : List Ent} {e a b c tg : Expr} {es : List Expr} {pos pf : Pos} {PP Pa : PyData → Prop} {d x y : PyData}
/-- what repr takes -/
def Shows (d : PyData) : Prop := d.canLay0 = true ∧ d.showable = true ∧ d.depth ≤ 60 ∧ d.shown.length ≤ sizeLine
theorem jk_reprP (F : Fam 𝒳 P w K mg base k) (hm : mg "repr" = none) (ha : Jk 𝒳 K C κ e Γ Pa) (h : ∀ d, Pa d → Shows d ∧ PP (.str d.shown)) (hg : ∀ i, Gl (𝒳 i) "repr" := by intro _; rfl) (hs : ∀ i, starEach [e] (𝒳 i).env = (false, eval e (𝒳 i).env) :: starEach [] (𝒳 i).env := by intro _; rfl) :
    Jk 𝒳 K C κ (.Call (.Name "repr" pf) [e] [] pos) Γ PP := j_bltP F (fun i => by have z := call_reprD (X := 𝒳 i) (F.gd i) (F.u65 i); rw [F.K i] at z; exact z) (jak_oneP ha hs) (fun ds ⟨d, e, p⟩ => by
      subst e
      obtain ⟨⟨h1, h2, h3, h4⟩, h5⟩ := h d p
      exact opc_one fun R H v w a Q q => ⟨v, d, rfl, dp_up w.sub a, h1, h2, h3, h4, q _ _ R H (.refl w) (.str _) h5⟩) hm (by decide +kernel) hg (by decide) (by decide) hs (fun _ => rfl)
theorem j_repr (F : Fam 𝒳 P w K mg base k) (hm : mg "repr" = none) (ha : JD 𝒳 K C e Γ d) (h : Shows d) (hg : ∀ i, Gl (𝒳 i) "repr" := by intro _; rfl) (hs : ∀ i, starEach [e] (𝒳 i).env = (false, eval e (𝒳 i).env) :: starEach [] (𝒳 i).env := by intro _; rfl) :
    JD 𝒳 K C (.Call (.Name "repr" pf) [e] [] pos) Γ (.str d.shown) := jk_reprP (κ := 0) F hm ha (fun x e => by rw [e]; exact ⟨h, rfl⟩) hg hs

/-! ### isinstance -/
def tyN : PyData → String
  | .none => "NoneType"
  | .bool _ => "bool"
  | .int _ => "int"
  | .str _ => "str"
  | .list _ => "list"
  | .tuple _ => "tuple"
  | .dict _ => "dict"
theorem dq_ty {H : Hp} {v : V} {d : PyData} (h : Dq K H v d) : TyX K H v (.type (tyN d)) := by
  cases h with
  | non => exact .base .non
  | bl b => exact .base (.bl b)
  | int i => exact .base (.int i)
  | str y => exact .base (.str y)
  | lst h _ =>
    rcases h with h | ⟨o, h⟩
    · exact .base (.lst h)
    · exact .base (.frz h)
  | tup h _ =>
    rcases h with (h | ⟨o, h⟩) | ⟨o, its, n, h, c, _⟩
    · exact .base (.tup h)
    · exact .fTuple h
    · exact .kTuple h c
  | dct h _ _ =>
    rcases h with h | ⟨o, h⟩
    · exact .base (.dK h)
    · exact .fDict h
/-- isinstance(e, T), T a built-in class -/
theorem jk_isiP {T : String} {pT : Pos} {n : Str} (F : Fam 𝒳 P w K mg base k) (hm : mg "isinstance" = none) (hmT : mg n = none) (ha : Jk 𝒳 K C κ e Γ Pa) (h : ∀ d, Pa d → ∃ r, kitB (tyN d) T = some r ∧ PP (.bool r)) (hvT : bootBuiltins n = some (.type T) := by decide +kernel) (hg : ∀ i, Gl (𝒳 i) "isinstance" := by intro _; rfl) (hgT : ∀ i, Gl (𝒳 i) n := by intro _; rfl)
    (hn : n ≠ "__name__" := by decide) (hdb : (n == ("__debug__" : Str)) = false := by decide) (hs1 : ∀ i, starEach [e, .Name n pT] (𝒳 i).env = (false, eval e (𝒳 i).env) :: starEach [.Name n pT] (𝒳 i).env := by intro _; rfl) (hs2 : ∀ i, starEach [.Name n pT] (𝒳 i).env = (false, eval (.Name n pT) (𝒳 i).env) :: starEach [] (𝒳 i).env := by intro _; rfl) :
    Jk 𝒳 K C κ (.Call (.Name "isinstance" pf) [e, .Name n pT] [] pos) Γ PP :=
  J.of (te := tCB (rIsi K) (tCons (stE 𝒳 e) (tCons (tC (.ty T)) tNil))) (fun i => by
    have z := pe_callB (X := 𝒳 i) (p := pf) (pos := pos) (call_isi (X := 𝒳 i)) (hg i) (by rw [F.mg i]; exact hm) (by decide +kernel) (pa_cons (stE_ok (e := e) i) (pa_cons (pe_bltn (pos := pT) (v := .ty T) (hgT i) (by rw [F.mg i]; exact hmT) hvT rfl hn hdb) pa_nil (hs2 i)) (hs1 i)) (by decide) (by decide) (hs1 i) rfl
    rw [F.K i] at z
    exact z) fun H0 R H σ s w Q q => ha H0 R H σ s w _ fun v d R1 H1 s1 d1 p1 => by
      obtain ⟨r, e, pr⟩ := h d p1
      exact ⟨v, .ty T, _, _, r, rfl, .ty T, dq_ty (dp_up s1.w.sub d1), kit_ty e, q _ _ R1 H1 s1 (.bl r) pr⟩
theorem j_isi {T : String} {pT : Pos} {n : Str} (r : Bool) (F : Fam 𝒳 P w K mg base k) (hm : mg "isinstance" = none) (hmT : mg n = none) (ha : JD 𝒳 K C e Γ d) (h : kitB (tyN d) T = some r) (hvT : bootBuiltins n = some (.type T) := by decide +kernel) (hg : ∀ i, Gl (𝒳 i) "isinstance" := by intro _; rfl) (hgT : ∀ i, Gl (𝒳 i) n := by intro _; rfl)
    (hn : n ≠ "__name__" := by decide) (hdb : (n == ("__debug__" : Str)) = false := by decide) (hs1 : ∀ i, starEach [e, .Name n pT] (𝒳 i).env = (false, eval e (𝒳 i).env) :: starEach [.Name n pT] (𝒳 i).env := by intro _; rfl) (hs2 : ∀ i, starEach [.Name n pT] (𝒳 i).env = (false, eval (.Name n pT) (𝒳 i).env) :: starEach [] (𝒳 i).env := by intro _; rfl) :
    JD 𝒳 K C (.Call (.Name "isinstance" pf) [e, .Name n pT] [] pos) Γ (.bool r) := jk_isiP (κ := 0) F hm hmT ha (fun x e => by rw [e]; exact ⟨r, h, rfl⟩) hvT hg hgT hn hdb hs1 hs2
end

/-! ### repeated tuples -/
/-- the same object: no items, or once -/
theorem tmul_same (l : Addr) (items : Array Value) (n : Nat) (dd : Option Addr) (sl : Array (Option Value)) (x : Int) (u : Tok) (c0 : (decide (x < -(2 ^ 63)) || decide (x ≥ 2 ^ 63)) = false) (c1 : (items.isEmpty || x == 1) = true) :
    Meets (Builtin.«tuple.__mul__» ⟨[.ref l, .int x u], []⟩) (fun _ R s => s.heap.get? l = some { cls := .type "tuple", dict := dd, data := .seq items n, slots := sl } ∧ R (.ok (.ret (Value.ref l))) s) :=
  .of_wp fun prog w A R s h => by
    obtain ⟨hp, g, d, tk, os⟩ := s
    obtain ⟨hl, h⟩ := h
    have f1 := AutoSeq1.idx_int
    wp_walk using wpAny_loadPart' hl
    repeat (first
      | (refine wpAny_ite_false (decide_eq_false (by rw [c0]; exact fun z => nomatch z)) ?_; wp_walk using wpAny_loadPart' hl)
      | (refine wpAny_ite_true (decide_eq_true (by rw [c1])) ?_; wp_walk using wpAny_loadPart' hl))
    exact ⟨_, rfl, h⟩
/-- never: a new one of no items -/
theorem tmul_none (l : Addr) (items : Array Value) (n : Nat) (dd : Option Addr) (sl : Array (Option Value)) (x : Int) (u : Tok) (c0 : (decide (x < -(2 ^ 63)) || decide (x ≥ 2 ^ 63)) = false) (c1 : (items.isEmpty || x == 1) = false) (c2 : (decide (x ≤ 0) || items.isEmpty) = true) :
    Meets (Builtin.«tuple.__mul__» ⟨[.ref l, .int x u], []⟩) (fun _ R s => s.heap.get? l = some { cls := .type "tuple", dict := dd, data := .seq items n, slots := sl } ∧
      R (.ok (.ret (Value.ref s.heap.objs.size))) { s with heap := s.heap.push { cls := Value.type "tuple", data := Data.seq #[] }, toks := s.toks }) :=
  .of_wp fun prog w A R s h => by
    obtain ⟨hp, g, d, tk, os⟩ := s
    obtain ⟨hl, h⟩ := h
    have f1 := AutoSeq1.idx_int
    wp_walk using wpAny_loadPart' hl
    repeat (first
      | (refine wpAny_ite_false (decide_eq_false (by rw [c0]; exact fun z => nomatch z)) ?_; wp_walk using wpAny_loadPart' hl)
      | (refine wpAny_ite_false (decide_eq_false (by rw [c1]; exact fun z => nomatch z)) ?_; wp_walk using wpAny_loadPart' hl)
      | (refine wpAny_ite_true (decide_eq_true (by rw [c2])) ?_; wp_walk using wpAny_loadPart' hl))
    exact ⟨_, rfl, h⟩
/-- t * k, any k -/
def rTimes (K : PySem.W.Frag) : R2 := fun x y H Q => ∃ l k xs, x = .ref l ∧ y = .int k ∧ SqT K H l xs ∧ -1000 ≤ k ∧ k ≤ 1000 ∧ xs.length ≤ 1000 ∧ ((xs = [] ∨ k = 1) → Q (.ref l) H) ∧ ((xs ≠ [] ∧ k ≠ 1) → ∀ p, H p = none → Q (.ref p) (upd H p (.tup (List.replicate k.toNat xs).flatten)))
theorem op_times {X : Cx} : OpR X (binaryOp .Mult) (rTimes X.K) := by
  intro pins s σ H x y v u Q I rx ry h
  obtain ⟨l, k, xs, rfl, rfl, hT, h0, h1, hz, qs, qn⟩ := h
  by_cases same : xs = [] ∨ k = 1
  · cases rx
    obtain ⟨t, rfl⟩ := ry
    obtain ⟨its, r, ⟨⟨cls, dd, data, sl⟩, ho, hc, n, hd⟩, hs⟩ := I.tuple hT
    simp only at hc hd
    subst hc hd
    have c0 : (decide (k < -(2 ^ 63)) || decide (k ≥ 2 ^ 63)) = false := by
      rw [decide_eq_false (by omega), decide_eq_false (by omega)]
      rfl
    have c1 : (its.toArray.isEmpty || k == 1) = true := by
      rcases same with e | e
      · subst e
        cases r
        rfl
      · subst e
        simp
    exact wpAny_binaryOp_repeat_ref (T := "tuple") (U := "int") (by decide) ⟨_, ho, rfl⟩ (fun s' => typeIs_int s' k t) noFill_tuple_mul F.fills_int_mul F.slot_int_rmul repeat_tuple F.slot_int_index.lookup
      (call_meets F.slot_int_rmul (typeIs_int s k t) F.entry_int_rmul (F.args_int_rmul_2 _ _) (int_rmul_tuple k t l its.toArray n dd sl)
        ⟨ho, rfl, ⟨_, ho, rfl⟩, call_meets F.slot_tuple_mul ⟨_, ho, rfl⟩ F.entry_tuple_mul (F.args_tuple_mul_2 _ _) (tmul_same l its.toArray n dd sl k t c0 c1) ⟨ho, .ref l, H, I, rfl, qs same⟩⟩)
  · have ne : xs ≠ [] ∧ k ≠ 1 := not_or.mp same
    by_cases pos : 2 ≤ k
    · exact op_repT pins s σ H _ _ v u Q I rx ry ⟨l, k, xs, rfl, rfl, hT, ne.1, pos, h1, hz, qn ne⟩
    · cases rx
      obtain ⟨t, rfl⟩ := ry
      obtain ⟨its, r, ⟨⟨cls, dd, data, sl⟩, ho, hc, n, hd⟩, hs⟩ := I.tuple hT
      simp only at hc hd
      subst hc hd
      have neg : k ≤ 0 := by
        have := ne.2
        omega
      have hi : its.toArray.isEmpty = false := by
        cases r with
        | nil => exact absurd rfl ne.1
        | cons _ _ => rfl
      have c0 : (decide (k < -(2 ^ 63)) || decide (k ≥ 2 ^ 63)) = false := by
        rw [decide_eq_false (by omega), decide_eq_false (by omega)]
        rfl
      have c1 : (its.toArray.isEmpty || k == 1) = false := by
        rw [hi, Bool.false_or]
        exact beq_eq_false_iff_ne.mpr ne.2
      have c2 : (decide (k ≤ 0) || its.toArray.isEmpty) = true := by
        rw [decide_eq_true neg]
        rfl
      have z := qn ne
      rw [show k.toNat = 0 from Int.toNat_of_nonpos neg] at z
      refine wpAny_binaryOp_repeat_ref (T := "tuple") (U := "int") (by decide) ⟨_, ho, rfl⟩ (fun s' => typeIs_int s' k t) noFill_tuple_mul F.fills_int_mul F.slot_int_rmul repeat_tuple F.slot_int_index.lookup
        (call_meets F.slot_int_rmul (typeIs_int s k t) F.entry_int_rmul (F.args_int_rmul_2 _ _) (int_rmul_tuple k t l its.toArray n dd sl)
          ⟨ho, rfl, ⟨_, ho, rfl⟩, call_meets F.slot_tuple_mul ⟨_, ho, rfl⟩ F.entry_tuple_mul (F.args_tuple_mul_2 _ _) (tmul_none l its.toArray n dd sl k t c0 c1 c2) ⟨ho, ?_⟩⟩)
      refine ⟨.ref s.heap.objs.size, _, I.laid (t' := s.toks) (o := .tup []) (fun b ob q => Heap.get?_push_of_some _ q) (Nat.le_refl _) ?_, rfl, z _ (I.hok.fresh (Nat.le_refl _))⟩
      exact ⟨Nat.zero_le _, [], .nil, IsTup.new _ _⟩
theorem dps_rep {K : PySem.W.Frag} {H : Hp} {vs : List V} {ds : List PyData} (a : DqAll K H vs ds) : ∀ n : Nat, DqAll K H (List.replicate n vs).flatten (List.replicate n ds).flatten
  | 0 => .nil
  | n + 1 => by
    rw [List.replicate_succ, List.replicate_succ, List.flatten_cons, List.flatten_cons]
    exact dps_app a (dps_rep a n)
section
variable {ι : Type} {𝒳 : ι → Cx} {P : Program} {w : World} {K : PySem.W.Frag} {mg : Str → Option Value} {base : Heap} {k j κ κ' : Nat} {C : Ctx} {Γ : List Ent} {e a b c tg : Expr} {es : List Expr} {pos pf : Pos} {PP Pa : PyData → Prop} {d x y : PyData}
theorem j_times {ds : List PyData} {n : Int} (F : Fam 𝒳 P w K mg base k) (ha : JD 𝒳 K C a Γ (.tuple ds)) (hb : JD 𝒳 K C b Γ (.int n)) (h0 : -1000 ≤ n) (h1 : n ≤ 1000) (hl : ds.length ≤ 1000) : JD 𝒳 K C (.BinOp a .Mult b pos) Γ (.tuple (List.replicate n.toNat ds).flatten) :=
  J.of (fun i => pe_op (by have z := op_times (X := 𝒳 i); rw [F.K i] at z; exact z) (stE_ok i) (stE_ok i)) (xd_op1 ha hb fun R H u v w hu hv Q q => by
    cases hv
    cases hu with
    | @tup l vs _ h2 a2 =>
      refine ⟨l, n, vs, rfl, rfl, sqT_up w.sub h2, h0, h1, by rw [dps_len a2]; exact hl, fun same => ?_, fun ne p hp => ?_⟩
      · have e : (List.replicate n.toNat ds).flatten = ds := by
          rcases same with z | z
          · subst z
            cases a2
            simp
          · subst z
            show (List.replicate 1 ds).flatten = ds
            simp
        rw [e] at q
        exact q _ _ R H (.refl w) (.tup h2 a2) rfl
      · have st := Stp.new w (p := p) (o := .tup (List.replicate n.toNat vs).flatten) hp
        exact q _ _ _ _ st (.tup (.inl (.inl upd_same)) (dps_up st.r (dps_rep a2 _))) rfl)
end
end DL

/-! DLg: the deck, a dict of its cells, a mixed number, a count. -/
namespace DL
open PySem PySem.Spec PyProof.Rows L2

/-- the deck's dict -/
def dkv (q : Addr) (m d : Int) : List (Key × V) := [(.inr "cells", .ref q), (.inr "mixed", .int m), (.inr "draws", .int d)]
structure DkIs (p q : Addr) (cs : List Int) (m d : Int) (H : Hp) : Prop where
  hp : H p = some (.dK (dkv q m d))
  hq : H q = some (.lst (cs.map V.int))
/-- p: the deck; q: its cells -/
def deckC (p q : Addr) : Ctx where
  M := [p, q]
  dk := p
  D n H := p ≠ q ∧ ∃ cs m d, DkIs p q cs m d H ∧ cs.length ≤ 63 ∧ 0 ≤ m ∧ m < 4000000000 ∧ 0 ≤ d ∧ d ≤ n
  fr n H H' e := fun ⟨ne, cs, m, d, ⟨h1, h2⟩, r⟩ => ⟨ne, cs, m, d, ⟨by rw [e p (by simp)]; exact h1, by rw [e q (by simp)]; exact h2⟩, r⟩
  mo n n' H l := fun ⟨ne, cs, m, d, h, a, b, c, e, f⟩ => ⟨ne, cs, m, d, h, a, b, c, e, by omega⟩
/-- a deck of some addresses -/
def IsDeck (C : Ctx) : Prop := ∃ p q, C = deckC p q
section
variable {p q : Addr} {cs cs' : List Int} {m m' d d' : Int} {R R0 H H' H0 : Hp}
theorem StU.deckP {C : Ctx} (s : StU C R0 H0 R H) {a : Addr} {o : HO} (ha : a ∈ C.M) : StU C R0 H0 R (upd H a o) :=
  ⟨s.r, ⟨fun b u h => by
    rw [upd_ne (fun e : b = a => by rw [e, s.w.out a ha] at h; cases h)]
    exact s.w.sub b u h, s.w.out, fun b hb => by
    by_cases e : b = a
    · subst e
      rw [upd_same]
      exact fun z => nomatch z
    · rw [upd_ne e]
      exact s.w.th b hb⟩, fun b u hn h => by
    rw [upd_ne (fun e : b = a => hn (by rw [e]; exact ha))]
    exact s.k b u hn h, s.n⟩
end
/-- what a draw is worth -/
def sDraw : FS where
  α := Int
  enc n := [.dck 0, .dat (.int n)]
  ok C n := IsDeck C ∧ 1 ≤ n ∧ n < 1000000000
  res n r := ∃ i, r = .dat (.int i) ∧ 0 ≤ i ∧ i < n
  κ := some 1
/-- raw steps -/
theorem r_get {σ : L2.St} {H : Hp} {Q : VK} {i : Nat} {p : Addr} {kvs : List (Key × V)} {k : Str} {v : V} (h0 : σ[i]? = some (some (.ref p))) (hp : H p = some (.dK kvs)) (hv : valV kvs (.inr k) = some v) (q : Q v H) : tDGet (tVar i) (tC (.str k)) σ H Q :=
  ⟨_, h0, p, v, rfl, .inl ⟨kvs, .inr k, .inl hp, rfl, hv.symm⟩, q⟩
theorem dkv_cells {q : Addr} {m d : Int} : valV (dkv q m d) (.inr "cells") = some (.ref q) := rfl
theorem dkv_mixed {q : Addr} {m d : Int} : valV (dkv q m d) (.inr "mixed") = some (.int m) := rfl
theorem dkv_draws {q : Addr} {m d : Int} : valV (dkv q m d) (.inr "draws") = some (.int d) := rfl
theorem dkv_put {q : Addr} {m d e : Int} : putK (dkv q m d) (.inr "draws") (.int e) = dkv q m e := rfl
/-- the deck under way -/
structure Run (p q : Addr) (H0 R0 R : Hp) (cs : List Int) (m d : Int) (H : Hp) : Prop where
  ne : p ≠ q
  is : DkIs p q cs m d H
  s : StU (deckC p q) R0 H0 R H
  old : ∀ a, H a = none → H0 a = none
theorem Run.put {p q : Addr} {H0 R0 R : Hp} {cs : List Int} {m d e : Int} {H : Hp} (r : Run p q H0 R0 R cs m d H) : Run p q H0 R0 R cs m e (upd H p (.dK (dkv q m e))) :=
  ⟨r.ne, ⟨upd_same, by rw [upd_ne r.ne.symm]; exact r.is.hq⟩, r.s.deckP (by simp [deckC]), fun a h => r.old a (by
    by_cases z : a = p
    · subst z
      rw [upd_same] at h
      cases h
    · rw [upd_ne z] at h
      exact h)⟩
theorem Run.cells {p q : Addr} {H0 R0 R : Hp} {cs cs' : List Int} {m d : Int} {H : Hp} (r : Run p q H0 R0 R cs m d H) : Run p q H0 R0 R cs' m d (upd H q (.lst (cs'.map V.int))) :=
  ⟨r.ne, ⟨by rw [upd_ne r.ne]; exact r.is.hp, upd_same⟩, r.s.deckP (by simp [deckC]), fun a h => r.old a (by
    by_cases z : a = q
    · subst z
      rw [upd_same] at h
      cases h
    · rw [upd_ne z] at h
      exact h)⟩
theorem Run.new {p q : Addr} {H0 R0 R : Hp} {cs : List Int} {m d : Int} {H : Hp} (r : Run p q H0 R0 R cs m d H) {l : Addr} {o : HO} (hl : H l = none) : Run p q H0 R0 R cs m d (upd H l o) :=
  ⟨r.ne, ⟨by rw [upd_ne (ne_of_none r.is.hp hl)]; exact r.is.hp, by rw [upd_ne (ne_of_none r.is.hq hl)]; exact r.is.hq⟩, r.s.trans (Stp.out r.s.w hl).toStU, fun a h => r.old a (by
    by_cases z : a = l
    · subst z
      rw [upd_same] at h
      cases h
    · rw [upd_ne z] at h
      exact h)⟩
theorem dps_ints {K : PySem.W.Frag} {H : Hp} : ∀ cs : List Int, DpAll K H (cs.map V.int) (cs.map PyData.int)
  | [] => .nil
  | c :: cs => .cons (.int c) (dps_ints cs)
theorem canLay_ints : ∀ cs : List Int, PyData.canLayAll0 (cs.map PyData.int) = true
  | [] => rfl
  | c :: cs => by
    simp only [List.map_cons, PyData.canLayAll0, Bool.and_eq_true]
    exact ⟨rfl, canLay_ints cs⟩
theorem depth_ints : ∀ cs : List Int, PyData.depthAll (cs.map PyData.int) = 0
  | [] => rfl
  | c :: cs => by
    simp only [List.map_cons, PyData.depthAll, PyData.depth, depth_ints cs]
    rfl
theorem shaped_ints (cs : List Int) : SeqAt.shaped (.list (cs.map PyData.int)) = true := by
  unfold SeqAt.shaped
  simp only [PyData.canLay0, canLay_ints, PyData.depth, depth_ints]
  decide
/-- int(x) -/
def rToInt : List V → Hp → VK → Prop := fun xs H Q => (∃ i, xs = [V.int i] ∧ Q (V.int i) H) ∨ ∃ k, xs = [V.bl k] ∧ Q (V.int (if k = true then 1 else 0)) H
abbrev tI (te : TE) : TE := tCB rToInt (tCons te tNil)
abbrev oAdd : R2 := rI0 fun i j => V.int (i + j)
abbrev oMul : R2 := rI CMul fun i j => V.int (i * j)
abbrev oMod : R2 := rI (fun _ j => j ≠ 0) fun i j => V.int (i.fmod j)
abbrev oDiv : R2 := rI CDivN fun i j => V.int (i.fdiv j)
abbrev tDk (x : Str) : TE := tDGet (tVar 0) (tC (.str x))
/-- the last three lines of a draw -/
def drawEnd (a b c e m2 g h m3 k m4 s6 : Int) : TS :=
  tSeq (tAsg (tOp oMod (tI (tOp oMul (tOp oAdd (tOp oAdd (tOp oMod (tI (tVar 3)) (tC (.int a))) (tOp oMul (tOp oMul (tC (.int b)) (tVar 2)) (tVar 2))) (tC (.int c))) (tC (.int e)))) (tC (.int m2))) (gName 4))
    (tSeq (tAsg (tOp oMod (tI (tOp oAdd (tOp oAdd (tOp oMul (tVar 4) (tVar 4)) (tOp oMul (tC (.int g)) (tVar 2))) (tC (.int h)))) (tC (.int m3))) (gName 4))
      (tRet (tOp oMod (tOp oDiv (tOp oMod (tI (tOp oMul (tVar 4) (tC (.int k)))) (tC (.int m4))) (tC (.int s6))) (tVar 1))))
theorem fmod_in {i j : Int} (h : 0 < j) : 0 ≤ i.fmod j ∧ i.fmod j < j := ⟨Int.fmod_nonneg_of_pos i h, Int.fmod_lt_of_pos i h⟩
/-- a positive number of few signs -/
abbrev Fw (i : Int) : Prop := 0 < i ∧ i < 4000000000
theorem drawEnd_run {a b c e m2 g h m3 k m4 s6 many turn cell : Int} {D : Ends} {σ : L2.St} {H : Hp} (ha : Fw a) (hb : Fw b) (he : Fw e) (h2 : Fw m2) (hg : Fw g) (h3 : Fw m3) (hk : Fw k) (h4 : Fw m4) (h6 : 0 < s6 ∧ s6 < 1000000) (hm : 1 ≤ many) (ht : 0 ≤ turn ∧ turn < 2 ^ 64) (hl : σ.length = 5)
    (s1 : σ[1]? = some (some (.int many))) (s2 : σ[2]? = some (some (.int turn))) (s3 : σ[3]? = some (some (.int cell))) (q : ∀ i, 0 ≤ i → i < many → D.rt (.int i) H) : drawEnd a b c e m2 g h m3 k m4 s6 D σ H := by
  refine ⟨_, s3, .inl ⟨_, rfl, _, _, rfl, rfl, by have := ha.1; omega, _, s2, _, _, rfl, rfl, .inl ⟨by have := hb.1; omega, by have := hb.2; omega⟩, _, s2, _, _, rfl, rfl, .inr ⟨by omega, ht.2⟩, _, _, rfl, rfl, _, _, rfl, rfl, _, _, rfl, rfl, .inr ⟨by have := he.1; omega, by have := he.2; omega⟩, .inl ⟨_, rfl, _, _, rfl, rfl, by have := h2.1; omega, ?_⟩⟩⟩
  show tSeq _ _ D (σ.set 4 (some (.int (((cell.fmod a + b * turn * turn + c) * e).fmod m2)))) H
  obtain ⟨x1, x2⟩ := fmod_in (i := (cell.fmod a + b * turn * turn + c) * e) h2.1
  generalize ((cell.fmod a + b * turn * turn + c) * e).fmod m2 = x at x1 x2 ⊢
  have t4 : (σ.set 4 (some (V.int x)))[4]? = some (some (.int x)) := List.getElem?_set_self (by omega)
  have t2 : (σ.set 4 (some (V.int x)))[2]? = some (some (.int turn)) := by rw [List.getElem?_set_ne (by decide)]; exact s2
  refine ⟨_, t4, _, t4, _, _, rfl, rfl, .inl ⟨by omega, by have := h2.2; omega⟩, _, t2, _, _, rfl, rfl, .inl ⟨by have := hg.1; omega, by have := hg.2; omega⟩, _, _, rfl, rfl, _, _, rfl, rfl, .inl ⟨_, rfl, _, _, rfl, rfl, by have := h3.1; omega, ?_⟩⟩
  show tRet (tOp oMod (tOp oDiv (tOp oMod (tI (tOp oMul (tVar 4) (tC (.int k)))) (tC (.int m4))) (tC (.int s6))) (tVar 1)) D ((σ.set 4 (some (.int x))).set 4 (some (.int ((x * x + g * turn + h).fmod m3)))) H
  obtain ⟨y1, y2⟩ := fmod_in (i := x * x + g * turn + h) h3.1
  generalize (x * x + g * turn + h).fmod m3 = y at y1 y2 ⊢
  rw [List.set_set]
  have u4 : (σ.set 4 (some (V.int y)))[4]? = some (some (.int y)) := List.getElem?_set_self (by omega)
  have u1 : (σ.set 4 (some (V.int y)))[1]? = some (some (.int many)) := by rw [List.getElem?_set_ne (by decide)]; exact s1
  refine ⟨_, u4, _, _, rfl, rfl, .inl ⟨by omega, by have := h3.2; omega⟩, .inl ⟨_, rfl, _, _, rfl, rfl, by have := h4.1; omega, _, _, rfl, rfl, ⟨by omega, by omega⟩, _, u1, _, _, rfl, rfl, by omega, ?_⟩⟩
  obtain ⟨z1, z2⟩ := fmod_in (i := ((y * k).fmod m4).fdiv s6) (show 0 < many by omega)
  exact q _ z1 z2
def drawT (K : PySem.W.Frag) (a b c e m2 g h m3 k m4 s6 : Int) : TS :=
  tSeq (sDPut (tVar 0) (tC (.str "draws")) (tOp oAdd (tDk "draws") (tC (.int 1))))
    (tSeq (tPar 2 3 (tCons (tDk "draws") (tCons (tDk "mixed") tNil)))
      (tSeq (tIfS (tTest (tOp (rNeD K) (tDk "cells") (tLst tNil)))
          (tSeq (tAsg (tBM0 K "list" rPop (tDk "cells")) (gName 3))
            (tSeq (tIfS (tTest (tOp (rI0 fun i j => V.bl (decide (j ≤ i))) (tVar 3) (tOp (rI CPow fun i j => V.int (i ^ j.toNat)) (tC (.int 10)) (tC (.int 18)))))
                (tSeq (tDrop (tBM K "list" rAppend (tDk "cells") (tCons (tOp oDiv (tVar 3) (tVar 1)) tNil))) (tRet (tOp oMod (tI (tVar 3)) (tVar 1)))) tNext)
              (tAsg (tOp oAdd (tVar 3) (tDk "mixed")) (gName 3)))) tNext)
        (drawEnd a b c e m2 g h m3 k m4 s6)))
theorem draw_run {K : PySem.W.Frag} {p q : Addr} {n : Nat} {a b c e m2 g h m3 k m4 s6 many : Int} {N B Ct : List Ent → Prop} (ha : Fw a) (hb : Fw b) (he : Fw e) (h2 : Fw m2) (hg : Fw g) (h3 : Fw m3) (hk : Fw k) (h4 : Fw m4) (h6 : 0 < s6 ∧ s6 < 1000000) (hm : 1 ≤ many) (hM : many < 1000000000) (hn : n + 1 ≤ cap) :
    XS K (deckC p q) (drawT K a b c e m2 g h m3 k m4 s6) [.dck n, .dat (.int many), .unk, .unk, .unk] N (fun r Γ => (∃ i, r = .dat (.int i) ∧ 0 ≤ i ∧ i < many) ∧ EndD (some 1) n Γ) B Ct := by
  intro H0 R0 H R σ D at0 nx rt bk ct
  obtain ⟨v0, s0, rfl, ne, cs, m, d, is, lc, m0, m1, d0, d1⟩ := at0.d.is 0 _ rfl (fun z => nomatch z)
  obtain ⟨v1, s1, dq⟩ := at0.d.is 1 _ rfl (fun z => nomatch z)
  cases dq
  have hl : σ.length = 5 := at0.d.len
  have s0 : σ[0]? = some (some (.ref p)) := s0
  have r0 : Run p q H0 R0 R cs m d H := ⟨ne, is, at0.s, at0.d.old⟩
  -- how it ends
  have fin : ∀ {cs' : List Int} {H' : Hp} {i : Int}, cs'.length ≤ 63 → Run p q H0 R0 R cs' m (d + 1) H' → 0 ≤ i → i < many → D.rt (.int i) H' := fun {cs' H' i} lc' r i0 i1 => by
    refine rt (.int i) (.dat (.int i)) H' R σ [.dck (n + 1), .unk, .unk, .unk, .unk] ⟨⟨i, rfl, i0, i1⟩, 0, n + 1, rfl, Nat.le_refl _⟩ ⟨r.s, ⟨hl, fun j x hj nu => ?_, fun j1 j2 pp ds es _ h1 => ?_, r.old⟩⟩ (.int i)
    · match j, hj with
      | 0, hj =>
        cases hj
        exact ⟨_, s0, rfl, ne, cs', m, d + 1, r.is, lc', m0, m1, by omega, by push_cast; omega⟩
      | 1, hj => cases hj; exact absurd rfl nu
      | 2, hj => cases hj; exact absurd rfl nu
      | 3, hj => cases hj; exact absurd rfl nu
      | 4, hj => cases hj; exact absurd rfl nu
      | j + 5, hj => cases hj
    · match j1, h1 with
      | 0, h1 => cases h1
      | 1, h1 => cases h1
      | 2, h1 => cases h1
      | 3, h1 => cases h1
      | 4, h1 => cases h1
      | j + 5, h1 => cases h1
  have cp : (cap : Int) = 2 ^ 62 := by decide
  refine ⟨_, s0, _, _, rfl, .inl ⟨_, .inr "draws", .inl is.hp, rfl, dkv_draws.symm⟩, _, _, rfl, rfl, _, s0, p, _, rfl, .inl ⟨_, .inr "draws", is.hp, rfl, (show 3 < sizeLine by decide), rfl⟩, ?_⟩
  rw [dkv_put]
  have r1 := r0.put (e := d + 1)
  generalize upd H p (.dK (dkv q m (d + 1))) = H1 at r1 ⊢
  refine ⟨_, s0, _, _, rfl, .inl ⟨_, .inr "draws", .inl r1.is.hp, rfl, dkv_draws.symm⟩, _, s0, _, _, rfl, .inl ⟨_, .inr "mixed", .inl r1.is.hp, rfl, dkv_mixed.symm⟩, _, _, rfl, ?_⟩
  show tSeq _ _ D ((σ.set 2 (some (.int (d + 1)))).set 3 (some (.int m))) H1
  have e0 : ((σ.set 2 (some (V.int (d + 1)))).set 3 (some (V.int m)))[0]? = some (some (.ref p)) := by rw [List.getElem?_set_ne (by decide), List.getElem?_set_ne (by decide)]; exact s0
  have e1 : ((σ.set 2 (some (V.int (d + 1)))).set 3 (some (V.int m)))[1]? = some (some (.int many)) := by rw [List.getElem?_set_ne (by decide), List.getElem?_set_ne (by decide)]; exact s1
  have e2 : ((σ.set 2 (some (V.int (d + 1)))).set 3 (some (V.int m)))[2]? = some (some (.int (d + 1))) := by rw [List.getElem?_set_ne (by decide), List.getElem?_set_self (by omega)]
  have e3 : ((σ.set 2 (some (V.int (d + 1)))).set 3 (some (V.int m)))[3]? = some (some (.int m)) := List.getElem?_set_self (by rw [List.length_set]; omega)
  have el : ((σ.set 2 (some (V.int (d + 1)))).set 3 (some (V.int m))).length = 5 := by rw [List.length_set, List.length_set]; exact hl
  generalize (σ.set 2 (some (V.int (d + 1)))).set 3 (some (V.int m)) = τ at e0 e1 e2 e3 el ⊢
  refine ⟨_, e0, _, _, rfl, .inl ⟨_, .inr "cells", .inl r1.is.hp, rfl, dkv_cells.symm⟩, (by decide), fun l hlf => ?_⟩
  have r2 := r1.new (o := .lst []) hlf
  have hl2 : (upd H1 l (.lst [])) l = some (.lst []) := upd_same
  refine ⟨.list (cs.map .int), .list [], .lst (.inl (.inl r2.is.hq)) (dps_ints cs), .lst (.inl (.inl hl2)) .nil, shaped_ints cs, rfl, _, rfl, ?_⟩
  generalize upd H1 l (.lst []) = H2 at r2 ⊢
  have drawn : ∀ {cs' : List Int} {H' : Hp} {ρ : L2.St} {cell : Int}, cs'.length ≤ 63 → Run p q H0 R0 R cs' m (d + 1) H' → ρ.length = 5 → ρ[1]? = some (some (.int many)) → ρ[2]? = some (some (.int (d + 1))) → ρ[3]? = some (some (.int cell)) → drawEnd a b c e m2 g h m3 k m4 s6 D ρ H' := fun lc' r rl r1 r2 r3 =>
    drawEnd_run ha hb he h2 hg h3 hk h4 h6 hm ⟨by omega, by omega⟩ rl r1 r2 r3 fun i i0 i1 => fin lc' r i0 i1
  cases cs with
  | nil =>
    show drawEnd a b c e m2 g h m3 k m4 s6 D τ H2
    exact drawn lc r2 el e1 e2 e3
  | cons c0 ct0 =>
    rw [show (PyData.list (List.map PyData.int (c0 :: ct0))).eqv (PyData.list []) = false from by simp [PyData.eqv, PyData.eqvAll]]
    rw [if_pos (by rfl)]
    have hne : c0 :: ct0 ≠ [] := fun z => nomatch z
    generalize hcs : c0 :: ct0 = cs at lc hne r2
    have ld : cs.dropLast.length ≤ 63 := by rw [List.length_dropLast]; omega
    have hlast : (cs.map V.int)[(cs.map V.int).length - 1]? = some (.int (cs.getLast hne)) := by
      rw [← List.getLast?_eq_getElem?, List.getLast?_map, List.getLast?_eq_some_getLast hne]
      rfl
    refine ⟨_, e0, _, _, rfl, .inl ⟨_, .inr "cells", .inl r2.is.hp, rfl, dkv_cells.symm⟩, .inl ⟨rfl, _, .inl (.inl r2.is.hq)⟩, q, _, _, rfl, rfl, r2.is.hq, hlast, ?_⟩
    have r3 : Run p q H0 R0 R cs.dropLast m (d + 1) (upd H2 q (.lst (cs.map V.int).dropLast)) := by
      rw [← List.map_dropLast]
      exact r2.cells
    generalize upd H2 q (.lst (cs.map V.int).dropLast) = H3 at r3 ⊢
    generalize hce : cs.getLast hne = ce
    show tSeq _ _ _ (τ.set 3 (some (.int ce))) H3
    have f0 : (τ.set 3 (some (V.int ce)))[0]? = some (some (.ref p)) := by rw [List.getElem?_set_ne (by decide)]; exact e0
    have f1 : (τ.set 3 (some (V.int ce)))[1]? = some (some (.int many)) := by rw [List.getElem?_set_ne (by decide)]; exact e1
    have f2 : (τ.set 3 (some (V.int ce)))[2]? = some (some (.int (d + 1))) := by rw [List.getElem?_set_ne (by decide)]; exact e2
    have f3 : (τ.set 3 (some (V.int ce)))[3]? = some (some (.int ce)) := List.getElem?_set_self (by omega)
    have fl : (τ.set 3 (some (V.int ce))).length = 5 := by rw [List.length_set]; exact el
    generalize τ.set 3 (some (V.int ce)) = υ at f0 f1 f2 f3 fl ⊢
    refine ⟨_, f3, _, _, rfl, rfl, ⟨by decide, by decide, by decide⟩, _, _, rfl, rfl, _, rfl, ?_⟩
    cases decide ((10 : Int) ^ (18 : Int).toNat ≤ ce) with
    | true =>
      rw [if_pos rfl]
      refine ⟨_, f0, _, _, rfl, .inl ⟨_, .inr "cells", .inl r3.is.hp, rfl, dkv_cells.symm⟩, .inl ⟨rfl, _, .inl (.inl r3.is.hq)⟩, _, f3, _, f1, _, _, rfl, rfl, ⟨by omega, by omega⟩, q, _, _, rfl, rfl, r3.is.hq, ?_, ?_⟩
      · rw [List.length_map]
        exact Nat.lt_of_le_of_lt ld (by decide)
      · have r4 : Run p q H0 R0 R (cs.dropLast ++ [ce.fdiv many]) m (d + 1) (upd H3 q (.lst (cs.dropLast.map V.int ++ [V.int (ce.fdiv many)]))) := by
          have := r3.cells (cs' := cs.dropLast ++ [ce.fdiv many])
          rw [List.map_append] at this
          exact this
        refine ⟨_, f3, .inl ⟨_, rfl, _, f1, _, _, rfl, rfl, by omega, ?_⟩⟩
        obtain ⟨z1, z2⟩ := fmod_in (i := ce) (show 0 < many by omega)
        refine fin ?_ r4 z1 z2
        rw [List.length_append, List.length_dropLast]
        simp only [List.length_cons, List.length_nil]
        omega
    | false =>
      rw [if_neg (by decide)]
      refine ⟨_, f3, _, f0, _, _, rfl, .inl ⟨_, .inr "mixed", .inl r3.is.hp, rfl, dkv_mixed.symm⟩, _, _, rfl, rfl, ?_⟩
      show drawEnd a b c e m2 g h m3 k m4 s6 D (υ.set 3 (some (.int (ce + m)))) H3
      refine drawn (cell := ce + m) ld r3 ?_ ?_ ?_ ?_
      · rw [List.length_set]
        exact fl
      · rw [List.getElem?_set_ne (by decide)]
        exact f1
      · rw [List.getElem?_set_ne (by decide)]
        exact f2
      · exact List.getElem?_set_self (by omega)
/-- what the deck's maker is worth -/
def spDeck (K : PySem.W.Frag) : Sp := fun vs H Q _ => ∃ (R : Hp) (ns : List Int) (v : V) (a : Addr), vs = [v] ∧ ns.length ≤ 63 ∧ Wd C0 R H ∧ v = .ref a ∧ SqL K R a (ns.map V.int) ∧
  ∀ (p q : Addr) (cs : List Int) (m : Int) (R' H' : Hp), p ≠ q → H p = none → H q = none → StU C0 R H R' H' → R' p = none → R' q = none → DkIs p q cs m 0 H' → cs.length ≤ 63 → 0 ≤ m → m < 4000000000 → Q (.ref p) H'
theorem ints_of {K : PySem.W.Frag} {R : Hp} : ∀ {vs : List V} {cs : List Int}, DqAll K R vs (cs.map PyData.int) → vs = cs.map V.int
  | _, [], .nil => rfl
  | _, c :: cs, .cons a b => by
    cases a
    rw [ints_of b]
    rfl
abbrev deckRet (K : PySem.W.Frag) (i j : Nat) : TE := tDisp [(tC (.str "cells"), tRevL K (tVar i)), (tC (.str "mixed"), tVar j), (tC (.str "draws"), tC (.int 0))]
theorem deck_ret {K : PySem.W.Frag} {i j : Nat} {H0 R0 H R : Hp} {σ : L2.St} {Γ : List Ent} {cs : List Int} {m : Int} {Q : VK} (a : At K C0 H0 R0 H R σ Γ) (h1 : Γ[i]? = some (.dat (.list (cs.map .int)))) (h2 : Γ[j]? = some (.dat (.int m)))
    (q : ∀ (p c : Addr) (H' : Hp), p ≠ c → H0 p = none → H0 c = none → StU C0 R0 H0 R H' → R p = none → R c = none → DkIs p c cs.reverse m 0 H' → Q (.ref p) H') : deckRet K i j σ H Q := fun p hp => by
  obtain ⟨v, s1, d1⟩ := a.d.is i _ h1 (fun z => nomatch z)
  obtain ⟨u, s2, d2⟩ := a.d.is j _ h2 (fun z => nomatch z)
  cases d2
  cases d1 with
  | @lst l xs _ hr ha =>
    have hx := ints_of ha
    subst hx
    have hrH : Rd (upd H p (.dK [])) l (.lst (cs.map V.int)) := by
      rcases rd_up a.s.w.sub hr with e | ⟨o, e⟩
      · exact .inl (by rw [upd_ne (ne_of_none e hp)]; exact e)
      · exact .inr ⟨o, by rw [upd_ne (ne_of_none e hp)]; exact e⟩
    refine ⟨_, s1, l, _, rfl, .inl hrH, fun c hc => ?_⟩
    have cp : c ≠ p := fun e => by
      rw [e, upd_same] at hc
      cases hc
    have hc' : H c = none := by
      rw [upd_ne cp] at hc
      exact hc
    refine ⟨_, s2, ?_⟩
    refine ⟨by rw [upd_ne cp.symm, upd_same], [(.inr "cells", .ref c), (.inr "mixed", .int m), (.inr "draws", .int 0)], rfl, (by show 3 ≤ 15; decide), ?_⟩
    have fin : ∀ b o, H b = some o → (upd (upd (upd H p (.dK [])) c (.lst (cs.map V.int).reverse)) p (.dK (mergeK [] [(.inr "cells", .ref c), (.inr "mixed", .int m), (.inr "draws", .int 0)]))) b = some o := fun b o e => by
      rw [upd_ne (ne_of_none e hp), upd_ne (ne_of_none e hc'), upd_ne (ne_of_none e hp)]
      exact e
    refine q p c _ cp.symm (a.d.old p hp) (a.d.old c hc') (a.s.trans ⟨Same.refl R, ⟨fun b u e => fin b u (a.s.w.sub b u e), (fun m hm => nomatch hm), (fun m hm => nomatch hm)⟩, fun b o _ e => fin b o e, fun b e => .inl e⟩) (a.s.w.sub.free hp) (a.s.w.sub.free hc') ⟨upd_same, ?_⟩
    rw [upd_ne cp, upd_same, List.map_reverse]
/-- deck = _law_deck(script), and what follows with the deck -/
theorem xs_deck {K : PySem.W.Frag} {i j : Nat} {Γ : List Ent} {ns : List Int} {t2 : TS} {N B Ct : List Ent → Prop} {Rt : Ent → List Ent → Prop} (h : Γ[j]? = some (.scr ns)) (hl : ns.length ≤ 63)
    (h2 : ∀ p q, XS K (deckC p q) t2 (Γ.set i (.dck 0)) (fun _ => False) (fun r _ => ∃ d, r = .dat d ∧ Rt (.dat d) []) (fun _ => False) (fun _ => False)) :
    XS K C0 (tSeq (tAsg (tG (spDeck K) (tCons (tVar j) tNil)) (gName i)) t2) Γ N Rt B Ct := fun H0 R0 H R σ D a n r b c => by
  obtain ⟨v, s1, p0, e0, sq⟩ := a.d.is j _ h (fun z => nomatch z)
  refine ⟨v, s1, R, ns, v, p0, rfl, hl, a.s.w, e0, sq, fun p q cs m R' H' ne hp hq st rp rq is lc m0 m1 => ?_⟩
  have dd : (deckC p q).D 0 H' := ⟨ne, cs, m, 0, is, lc, m0, m1, Int.le_refl 0, Int.le_refl 0⟩
  have sAll := a.s.trans st
  have M2 : ∀ x, x ∈ (deckC p q).M → x = p ∨ x = q := fun x hx => by simpa [deckC] using hx
  have wd : Wd (deckC p q) R' H' := ⟨st.w.sub, fun x hx => by
    rcases M2 x hx with e | e
    · rw [e]; exact rp
    · rw [e]; exact rq, fun x hx => by
    rcases M2 x hx with e | e
    · rw [e, is.hp]; exact fun z => nomatch z
    · rw [e, is.hq]; exact fun z => nomatch z⟩
  have dst := a.d
  have at1 : At K (deckC p q) H0 R0 H' R' (σ.set i (some (.ref p))) (Γ.set i (.dck 0)) := by
    refine ⟨⟨sAll.r, wd, fun x o hx e => sAll.k x o (fun z => nomatch z) e, sAll.n⟩, ⟨by rw [List.length_set, List.length_set]; exact a.d.len, fun x ent hx nu => ?_, fun x y pp ds es nxy hx hy hs => ?_, fun x e => a.d.old x (st.still e)⟩⟩
    · rcases set_get hx with ⟨rfl, rfl, hl⟩ | ⟨ne', hx⟩
      · exact ⟨.ref p, List.getElem?_set_self (by rw [a.d.len]; exact hl), rfl, dd⟩
      · obtain ⟨u, g1, g2⟩ := a.d.is x ent hx nu
        refine ⟨u, by rw [List.getElem?_set_ne ne']; exact g1, ?_⟩
        have g3 := g2.stp st (fun n e => by subst e; exact g2.2.elim)
        cases ent with
        | unk => trivial
        | dat d => exact g3
        | dck n => exact g2.2.elim
        | scr ms => exact g3
        | own ds =>
          obtain ⟨l, xs, k1, k2, k3, k4, k5, k6⟩ := g2
          obtain ⟨l', xs', k1', k2', k3', k4', k5', k6'⟩ := g3
          refine ⟨l', xs', k1', k2', k3', k4', k5', fun hm => ?_⟩
          rw [k1] at k1'
          cases k1'
          rcases M2 l hm with e | e
          · rw [e, hp] at k2
            cases k2
          · rw [e, hq] at k2
            cases k2
    · rcases set_get hx with ⟨_, e, _⟩ | ⟨nx', hx⟩
      · cases e
      · rcases set_get hy with ⟨_, e, _⟩ | ⟨ny', hy⟩
        · cases e
        · rw [List.getElem?_set_ne nx'] at hs
          rw [List.getElem?_set_ne ny']
          exact a.d.sep x y pp ds es nxy hx hy hs
  refine h2 p q H0 R0 H' R' _ D at1 (fun _ _ _ _ z _ _ => z.elim) (fun v' x' H2 R2 σ2 Γ2 ⟨d, e, rr⟩ at2 ro => ?_) (fun _ _ _ _ z _ _ => z.elim) (fun _ _ _ _ z _ _ => z.elim)
  subst e
  refine r v' (.dat d) H2 R2 [] [] rr ⟨⟨at2.s.r, ⟨at2.s.w.sub, (fun m hm => nomatch hm), (fun m hm => nomatch hm)⟩, fun x o _ e => at2.s.k x o (fun hm => ?_) e, at2.s.n⟩, ⟨rfl, fun x _ hx => ?_, fun x _ _ _ _ _ hx => ?_, at2.d.old⟩⟩ ro
  · rcases M2 x hm with z | z
    · rw [z, a.d.old p hp] at e
      cases e
    · rw [z, a.d.old q hq] at e
      cases e
  · cases hx
  · cases hx
theorem XS.run1 {K : PySem.W.Frag} {C : Ctx} {H0 R0 H R : Hp} {σ : L2.St} {Γ : List Ent} {t1 t2 : TS} {D : Ends} {N : List Ent → Prop} (a : At K C H0 R0 H R σ Γ) (h : XS K C t1 Γ N (fun _ _ => False) (fun _ => False) (fun _ => False)) (k : ∀ σ' H' R' Γ', N Γ' → At K C H0 R0 H' R' σ' Γ' → t2 D σ' H') : tSeq t1 t2 D σ H :=
  h H0 R0 H R σ _ a (fun σ' H' R' Γ' n _ a' => k σ' H' R' Γ' n a') (fun _ _ _ _ _ _ z => z.elim) (fun _ _ _ _ z => z.elim) (fun _ _ _ _ z => z.elim)
theorem cut_len {α : Type} (xs : List α) (hi : Option Int) : (DL.cutD xs none hi).length ≤ xs.length := by
  unfold DL.cutD
  rw [List.length_take, List.length_drop]
  omega
/-- the one context of a def's body -/
abbrev famOf (P : Program) (w : World) (K : PySem.W.Frag) (mg : Str → Option Value) (base : Heap) (N : List Str) (qual : Str) (st : Stmt) (f : Addr) (cdv : Value) (Ar : Around) (fr : List Env) (sh : Shared) (Hh : Hp) : Unit → Cx :=
  fun _ => (cxOf CX0 P w K mg base N qual (defScope st) f cdv Ar fr sh Hh E0).nox
section
variable {P : Program} {w : World} {K : PySem.W.Frag} {mg : Str → Option Value} {base : Heap} {k : Nat} {f : Addr} {fd : FuncData} {ps : List Str} {T : FS}
/-- a def by judgements of its body -/
theorem okJ {x qual : Str} {st : Stmt} {N : List Str} (F : Fun K x qual st f fd) (S : FnScope N ps (defScope st)) (len : ∀ C a, T.ok C a → (T.enc a).length = ps.length) (hdk : T.κ = none → ∀ a m, Ent.dck m ∉ T.enc a)
    (hbody : ∀ (cdv : Value) (Ar : Around) (fr : List Env) (sh : Shared) (Hh : Hp) (C : Ctx) (a : T.α) (n : Nat), Fam (famOf P w K mg base N qual st f cdv Ar fr sh Hh) P w K mg base k → T.ok C a → BegD T.κ n →
      JS (famOf P w K mg base N qual st f cdv Ar fr sh Hh) K C (defBody st) (ini N.length (deal n (T.enc a))) (fun Γ => T.res a (.dat .none) ∧ EndD T.κ n Γ) (fun r Γ => T.res a r ∧ EndD T.κ n Γ) (fun _ => False) (fun _ => False)) : FnG P w K mg base (k + 1) f fd ps (spG K T) :=
  okD F S len hdk fun cdv Ar fr sh Hh C a n rm gd h hb =>
    ⟨_, stSs_ok (𝒳 := famOf P w K mg base N qual st f cdv Ar fr sh Hh) (), hbody cdv Ar fr sh Hh C a n ⟨fun _ => rfl, fun _ => rfl, fun _ => rfl, fun _ => rfl, fun _ => rfl, fun _ => rm, fun _ => gd, fun _ => rfl, fun _ => S.nd, fun _ => PassesOwn.never⟩ h hb⟩
end
/-! ### a list of one's own becomes data -/
theorem At.freeze {K : PySem.W.Frag} {C : Ctx} {H0 R0 H R : Hp} {σ : L2.St} {Γ : List Ent} {i : Nat} {ds : List PyData} (a : At K C H0 R0 H R σ Γ) (h : Γ[i]? = some (.own ds)) : ∃ R', Same R R' ∧ At K C H0 R0 H R' σ (Γ.set i (.dat (.list ds))) := by
  obtain ⟨v, s1, p, xs, rfl, h1, h2, h3, h4, h5⟩ := a.d.is i _ h (fun z => nomatch z)
  refine ⟨upd R p (.lst xs), same_upd h3, ⟨⟨a.s.r.trans (same_upd h3), a.s.w.freeze h5 h1, a.s.k, fun b hb => ?_⟩, ⟨by rw [List.length_set]; exact a.d.len, fun j r hj nu => ?_, fun j1 j2 pp es fs ne hj1 hj2 hs => ?_, a.d.old⟩⟩⟩
  · by_cases e : b = p
    · subst e
      exact .inr h4
    · rw [upd_ne e] at hb
      exact a.s.n b hb
  · rcases set_get hj with ⟨rfl, rfl, _⟩ | ⟨ne, hj⟩
    · exact ⟨_, s1, .lst (.inl upd_same) (dps_up (same_upd h3) h2)⟩
    · obtain ⟨u, g1, g2⟩ := a.d.is j r hj nu
      refine ⟨u, g1, ?_⟩
      cases r with
      | unk => trivial
      | dat d => exact dp_up (same_upd h3) g2
      | dck n => exact g2
      | scr ns => exact let ⟨b, e, q⟩ := g2; ⟨b, e, (same_upd h3).seq q⟩
      | own es =>
        obtain ⟨l, ys, rfl, k1, k2, k3, k4, k5⟩ := g2
        refine ⟨l, ys, rfl, k1, dps_up (same_upd h3) k2, ?_, k4, k5⟩
        rw [upd_ne]
        · exact k3
        · rintro rfl
          exact a.d.sep i j l ds es ne h hj s1 g1
  · rcases set_get hj1 with ⟨_, e, _⟩ | ⟨_, hj1⟩
    · cases e
    · rcases set_get hj2 with ⟨_, e, _⟩ | ⟨_, hj2⟩
      · cases e
      · exact a.d.sep j1 j2 pp es fs ne hj1 hj2 hs
theorem xs_freeze {K : PySem.W.Frag} {C : Ctx} {Γ : List Ent} {t : TS} {N B Ct : List Ent → Prop} {Rt : Ent → List Ent → Prop} (i : Nat) {ds : List PyData} (h : XS K C t (Γ.set i (.dat (.list ds))) N Rt B Ct) (hi : Γ[i]? = some (.own ds) := by rfl) : XS K C t Γ N Rt B Ct := fun H0 R0 H R σ D a n r b c => by
  obtain ⟨R', sm, a'⟩ := a.freeze hi
  exact h H0 R0 H R' σ D a' (fun σ2 H2 R2 Γ2 z s2 => n σ2 H2 R2 Γ2 z (sm.trans s2)) r (fun σ2 H2 R2 Γ2 z s2 => b σ2 H2 R2 Γ2 z (sm.trans s2)) fun σ2 H2 R2 Γ2 z s2 => c σ2 H2 R2 Γ2 z (sm.trans s2)
theorem pick_get {ds : List PyData} {i : Int} (h0 : 0 ≤ i) (h1 : i < ds.length) : ∃ d, atI ds i = some d ∧ d ∈ ds := by
  have hl : i.toNat < ds.length := by omega
  have e : ((i.toNat : Nat) : Int) = i := by omega
  refine ⟨ds[i.toNat], ?_, List.getElem_mem hl⟩
  have z := atI_nat (List.getElem?_eq_getElem hl)
  rw [e] at z
  exact z
/-- what a pick is worth -/
def sPick : FS where
  α := List PyData
  enc ds := [.dck 0, .dat (.list ds)]
  ok C ds := IsDeck C ∧ ds ≠ [] ∧ ds.length ≤ 1000
  res ds r := ∃ d, d ∈ ds ∧ r = .dat d
  κ := some 1
section
variable {ι : Type} {𝒳 : ι → Cx} {P : Program} {w : World} {K : PySem.W.Frag} {mg : Str → Option Value} {base : Heap} {k j : Nat} {C : Ctx} {Γ : List Ent} {e : Expr} {pos pf px : Pos} {f : Addr} {fd : FuncData} {ps : List Str} {fx x : Str}
/-- _law_draw(deck, e) -/
theorem j_draw (i : Nat) {n : Nat} {m : Int} (F : Fam 𝒳 P w K mg base k) (D : Df K mg fx f fd ps) (G : FnG P w K mg base j f fd ps (spG K sDraw)) (hC : IsDeck C) (hn : n + 1 ≤ cap) (he : JD 𝒳 K C e Γ (.int m)) (h1 : 1 ≤ m) (h2 : m < 1000000000) (hi : Γ[i]? = some (.dck n) := by rfl) (hj : j ≤ k := by first | decide | omega | exact Nat.le_refl _)
    (hN : ∀ j, (𝒳 j).N[i]? = some x := by intro _; rfl) (hv : ∀ j, Vis (𝒳 j).env.scope x := by intro _; first | exact Or.inl rfl | exact Or.inr (Or.inl rfl) | exact Or.inr (Or.inr rfl)) (hg : ∀ i, Gl (𝒳 i) fx := by intro _; rfl) (hdb : (fx == ("__debug__" : Str)) = false := by decide) (hd : (x == ("__debug__" : Str)) = false := by decide) (hcd : (x == ("__classdict__" : Str)) = false := by decide)
    (hs1 : ∀ i, starEach [.Name x px, e] (𝒳 i).env = (false, eval (.Name x px) (𝒳 i).env) :: starEach [e] (𝒳 i).env := by intro _; rfl) (hs2 : ∀ i, starEach [e] (𝒳 i).env = (false, eval e (𝒳 i).env) :: starEach [] (𝒳 i).env := by intro _; rfl) (pl : ∀ i, (backTo pos (starEach [e] (𝒳 i).env)).any (·.1) = false := by intro _; rfl) :
    Jk 𝒳 K C 1 (.Call (.Name fx pf) [.Name x px, e] [] pos) Γ (fun d => ∃ r, d = .int r ∧ 0 ≤ r ∧ r < m) :=
  j_callI (κ := 0) (S := sDraw) F D G rfl (ja_dck i (ja_one he hs2) hi hN hv hd hcd hs1) (fun rs e => ⟨m, e, ⟨hC, h1, h2⟩, fun r ⟨q, e, a, b⟩ => ⟨_, e, q, rfl, a, b⟩⟩) hi hn hj hg hdb hs1 pl
/-- _law_pick(deck, e) -/
theorem j_pick (i : Nat) {n : Nat} {ds : List PyData} (F : Fam 𝒳 P w K mg base k) (D : Df K mg fx f fd ps) (G : FnG P w K mg base j f fd ps (spG K sPick)) (hC : IsDeck C) (hn : n + 1 ≤ cap) (he : JD 𝒳 K C e Γ (.list ds)) (h1 : ds ≠ []) (h2 : ds.length ≤ 1000) (hi : Γ[i]? = some (.dck n) := by rfl) (hj : j ≤ k := by first | decide | omega | exact Nat.le_refl _)
    (hN : ∀ j, (𝒳 j).N[i]? = some x := by intro _; rfl) (hv : ∀ j, Vis (𝒳 j).env.scope x := by intro _; first | exact Or.inl rfl | exact Or.inr (Or.inl rfl) | exact Or.inr (Or.inr rfl)) (hg : ∀ i, Gl (𝒳 i) fx := by intro _; rfl) (hdb : (fx == ("__debug__" : Str)) = false := by decide) (hd : (x == ("__debug__" : Str)) = false := by decide) (hcd : (x == ("__classdict__" : Str)) = false := by decide)
    (hs1 : ∀ i, starEach [.Name x px, e] (𝒳 i).env = (false, eval (.Name x px) (𝒳 i).env) :: starEach [e] (𝒳 i).env := by intro _; rfl) (hs2 : ∀ i, starEach [e] (𝒳 i).env = (false, eval e (𝒳 i).env) :: starEach [] (𝒳 i).env := by intro _; rfl) (pl : ∀ i, (backTo pos (starEach [e] (𝒳 i).env)).any (·.1) = false := by intro _; rfl) :
    Jk 𝒳 K C 1 (.Call (.Name fx pf) [.Name x px, e] [] pos) Γ (fun d => d ∈ ds) :=
  j_callI (κ := 0) (S := sPick) F D G rfl (ja_dck i (ja_one he hs2) hi hN hv hd hcd hs1) (fun rs e => ⟨ds, e, ⟨hC, h1, h2⟩, fun r ⟨d, a, b⟩ => ⟨_, b, a⟩⟩) hi hn hj hg hdb hs1 pl
end
section
variable {ι : Type} {𝒳 : ι → Cx} {P : Program} {w : World} {K : PySem.W.Frag} {mg : Str → Option Value} {base : Heap} {k j κ : Nat} {C : Ctx} {Γ : List Ent} {e : Expr} {pos pf : Pos}
theorem jk_tupleP {PL : List PyData → Prop} (F : Fam 𝒳 P w K mg base k) (hm : mg "tuple" = none) (ha : Jk 𝒳 K C κ e Γ (fun d => ∃ ds, d = .list ds ∧ PL ds)) (hg : ∀ i, Gl (𝒳 i) "tuple" := by intro _; rfl) (hs : ∀ i, starEach [e] (𝒳 i).env = (false, eval e (𝒳 i).env) :: starEach [] (𝒳 i).env := by intro _; rfl) :
    Jk 𝒳 K C κ (.Call (.Name "tuple" pf) [e] [] pos) Γ (fun d => ∃ ds, d = .tuple ds ∧ PL ds) := j_tyP F (fun i => by have z := call_tuple_of (X := 𝒳 i); rw [F.K i] at z; exact z) (jak_oneP ha hs) (fun ds ⟨x, e, l, e2, pl⟩ => by
      subst e e2
      exact fun R H vs w a Q q => (ItemsD.list l).tupOp R H vs w a Q fun z d R' H' st dq e => q z d R' H' st dq ⟨l, e, pl⟩) hm boot_tuple hg (by decide) (by decide) hs (fun _ => rfl)
end
theorem jtsk_one {ι : Type} {𝒳 : ι → Cx} {K : PySem.W.Frag} {C : Ctx} {Γ : List Ent} {κ : Nat} {e : Expr} {B : Bool → Prop} (h : JTk 𝒳 K C κ e Γ B) : XTk K C κ (stTs 𝒳 [e]) Γ B := JTs.of (fun i => pts_one (stT_ok i)) h
theorem LcR.sub {T : PyData → Bool → Prop} : ∀ {ds es : List PyData}, LcR T (fun d e => e = d) ds es → ∀ e, e ∈ es → e ∈ ds
  | _, _, .nil, _, h => h
  | _, _, .skip _ b, e, h => List.mem_cons_of_mem _ (b.sub e h)
  | _, _, .keep _ c b, e, h => by
    rcases List.mem_cons.mp h with z | z
    · rw [z, c]
      exact List.mem_cons_self ..
    · exact List.mem_cons_of_mem _ (b.sub e z)
/-- a list of small numbers -/
abbrev nats (ms : List Nat) : List PyData := ms.map fun m => .int (m : Nat)
theorem nats_of {os : List Nat} : ∀ {es : List PyData}, (∀ e, e ∈ es → e ∈ nats os) → ∃ ms, es = nats ms ∧ ∀ x, x ∈ ms → x ∈ os
  | [], _ => ⟨[], rfl, fun _ h => nomatch h⟩
  | e :: es, h => by
    obtain ⟨ms, rfl, hm⟩ := nats_of (es := es) fun x hx => h x (List.mem_cons_of_mem _ hx)
    obtain ⟨o, ho, rfl⟩ := List.mem_map.mp (h e (List.mem_cons_self ..))
    exact ⟨o :: ms, rfl, fun x hx => by
      rcases List.mem_cons.mp hx with z | z
      · rw [z]; exact ho
      · exact hm x z⟩
end DL

/-! DLh: how long a text of data may be. -/
namespace DL
open PySem PySem.Spec PyProof.Rows L2
/-- data of some depth, of a text of so many signs at most -/
structure Sm (n L : Nat) (d : PyData) : Prop where
  lay : d.canLay0 = true
  sh : d.showable = true
  dp : d.depth ≤ n
  len : d.shown.length ≤ L
theorem Sm.mono {n L n' L' : Nat} {d : PyData} (h : Sm n L d) (a : n ≤ n') (b : L ≤ L') : Sm n' L' d := ⟨h.lay, h.sh, Nat.le_trans h.dp a, Nat.le_trans h.len b⟩
theorem Sm.shows {n L : Nat} {d : PyData} (h : Sm n L d) (a : n ≤ 60) (b : L ≤ sizeLine) : Shows d := ⟨h.lay, h.sh, Nat.le_trans h.dp a, Nat.le_trans h.len b⟩
theorem sm_all {n L : Nat} : ∀ {ds : List PyData}, (∀ e, e ∈ ds → Sm n L e) → PyData.canLayAll0 ds = true ∧ PyData.showableAll ds = true ∧ PyData.depthAll ds ≤ n ∧ ((PyData.shownAll ds).map (·.length)).sum ≤ ds.length * L ∧ (PyData.shownAll ds).length = ds.length
  | [], _ => ⟨rfl, rfl, Nat.zero_le _, Nat.zero_le _, rfl⟩
  | d :: ds, h => by
    obtain ⟨a, b, c, e, f⟩ := sm_all (ds := ds) fun x hx => h x (List.mem_cons_of_mem _ hx)
    obtain ⟨a', b', c', e'⟩ := h d (List.mem_cons_self ..)
    refine ⟨?_, ?_, ?_, ?_, ?_⟩
    · simp only [PyData.canLayAll0, a, a', Bool.and_self]
    · simp only [PyData.showableAll, b, b', Bool.and_self]
    · show max d.depth (PyData.depthAll ds) ≤ n
      omega
    · show d.shown.length + ((PyData.shownAll ds).map (·.length)).sum ≤ (ds.length + 1) * L
      rw [Nat.add_mul, Nat.one_mul]
      omega
    · show (PyData.shownAll ds).length + 1 = ds.length + 1
      rw [f]
theorem sm_tup {n L : Nat} {ds : List PyData} (h : ∀ e, e ∈ ds → Sm n L e) : Sm (n + 1) (ds.length * L + 2 * ds.length + 3) (.tuple ds) := by
  obtain ⟨a, b, c, e, f⟩ := sm_all h
  refine ⟨?_, ?_, Nat.succ_le_succ c, ?_⟩
  · simp only [PyData.canLay0, a]
  · simp only [PyData.showable, b]
  · have := tupleText_len_le (PyData.shownAll ds)
    show (tupleText (PyData.shownAll ds)).length ≤ _
    omega
theorem sm_lst {n L : Nat} {ds : List PyData} (h : ∀ e, e ∈ ds → Sm n L e) : Sm (n + 1) (ds.length * L + 2 * ds.length + 3) (.list ds) := by
  obtain ⟨a, b, c, e, f⟩ := sm_all h
  refine ⟨?_, ?_, Nat.succ_le_succ c, ?_⟩
  · simp only [PyData.canLay0, a]
  · simp only [PyData.showable, b]
  · have := listText_len_le (PyData.shownAll ds)
    show (listText (PyData.shownAll ds)).length ≤ _
    omega
theorem sm_non : Sm 0 4 .none := ⟨rfl, rfl, Nat.le_refl _, by decide⟩
end DL

/-! DLs: the set of a list of one text, many times. -/
namespace DL
open PySem PySem.Spec PyProof.Rows L2
/-- the members, once m of them were put in -/
abbrev oneOf (x : Str) (m : Nat) : Str → Bool := fun y => decide (0 < m) && (x == y)
abbrev SetIs (P : Program) (w : World) (h : Heap) (c : Addr) (x : Str) (m : Nat) : Prop := h.SetOf (PySem.strKind P w) c (oneOf x m) (min m 1)
theorem SetIs.keep {P : Program} {w : World} {h h' : Heap} {c : Addr} {x : Str} {m : Nat} (z : SetIs P w h c x m) (k : ∀ o, h.get? c = some o → h'.get? c = some o) : SetIs P w h' c x m :=
  let ⟨o, a, b, d, ho, r⟩ := z
  ⟨o, a, b, d, k o ho, r⟩
theorem SetIs.more {P : Program} {w : World} {h : Heap} {c : Addr} {x : Str} {m : Nat} (z : h.SetOf (PySem.strKind P w) c (fun y => oneOf x m y || decide (y = x)) (if oneOf x m x then min m 1 else min m 1 + 1)) : SetIs P w h c x (m + 1) := by
  refine PyProof.Rows.SetOf_congr z (fun y => ?_) ?_
  · by_cases e : x = y
    · subst e
      simp [oneOf]
    · have e' : ¬ y = x := fun q => e q.symm
      simp [oneOf, e, e']
  · cases m with
    | zero => rfl
    | succ m =>
      have : oneOf x (m + 1) x = true := by simp [oneOf]
      rw [if_pos this]
      omega
theorem fill_one {P : Program} {w : World} {A : Around} {R : Result → Shared → Prop} {it c : Addr} {fp wr : List Addr} {G : Array GenState → Array GenState → Prop} {n : Nat} {Pv : Nat → Value → Prop} {St : Nat → Shared → Prop} (W : WalksS P w A.in1 it fp wr G n Pv St) (hc : c ∉ fp) {x : Str}
    (hx : ∀ i v, Pv i v → ∃ t, v = .str x t) : ∀ (m i : Nat) (s : Shared), i + m = n → St i s → SetIs P w s.heap c x i → (∀ s', Moved (c :: wr) G s s' → SetIs P w s'.heap c x n → R (.ok (.ret .none)) s') → codeAny (model P w) A (.builtin "set.update.loop" ⟨[.ref c, .ref it], []⟩) R s := by
  intro m
  have cw : c ∉ wr := fun z => hc (W.sub _ z)
  have bigger : ∀ b ∈ wr, b ∈ c :: wr := fun b z => .tail _ z
  induction m with
  | zero =>
    intro i s e hs hS fin
    obtain rfl : i = n := e
    apply codeAny_builtin PyProof.Rows.F.entry_set_update_loop
    rw [Around.under_plainId PyProof.Rows.F.plain_set_update_loop]
    show wpAny (model P w) A.in1 (pyNext (.ref it) >>= _) _ _ s
    apply wpAny_bind
    refine W.done s _ _ hs fun s' mv => ?_
    exact wpAny_pure (fin s' (mv.mono bigger) (hS.keep fun o ho => mv.heap c _ cw ho))
  | succ m ih =>
    intro i s e hs hS fin
    apply codeAny_builtin PyProof.Rows.F.entry_set_update_loop
    rw [Around.under_plainId PyProof.Rows.F.plain_set_update_loop]
    show wpAny (model P w) A.in1 (pyNext (.ref it) >>= _) _ _ s
    apply wpAny_bind
    refine W.item i s _ _ (by omega) hs fun v s1 pv hs1 mv => ?_
    obtain ⟨t, rfl⟩ := hx i v pv
    have hS1 := hS.keep (h' := s1.heap) fun o ho => mv.heap c _ cw ho
    show wpAny (model P w) A.in1 (holding [Value.str x t] (setAdd c (.str x t)) >>= _) _ _ s1
    apply wpAny_bind
    apply wpAny_holding
    unfold setAdd
    apply wpAny_holding
    apply wpAny_bind
    refine (PySem.strKind P w).pyHash (k := x) (strKind_is _ _ _ _) ?_
    refine wpAny_setAddHashed_of (knd := PySem.strKind P w) (s := { s1 with toks := s1.toks + 1 }) (strKind_is _ _ _ _) rfl hS1 (by unfold scanBound; omega) fun h' sb hS2 => ?_
    have hS3 : SetIs P w h' c x (i + 1) := SetIs.more hS2
    refine wpAny_pure ⟨plainId_quiet PyProof.Rows.F.plain_set_update_loop _, ih (i + 1) _ (by omega) ?_ hS3 fun s2 mv2 hSn => fin s2 ?_ hSn⟩
    · refine W.frame _ s1 _ _ hs1 (Nat.le_succ _) fun b hb o ho => ?_
      have ne : b ≠ c := fun z => hc (by rw [← z]; exact hb)
      rw [sb.2 b ne]
      exact ho
    · refine Moved.trans W.gtrans ((mv.mono bigger).then_heap (Nat.le_succ _) fun b o hb ho => ?_) mv2
      have ne : b ≠ c := fun z => hb (by rw [z]; exact .head _)
      rw [sb.2 b ne]
      exact ho
/-- the empty set, just made -/
abbrev bare (led : Bool) : Obj := { cls := .type "set", dict := none, data := .set #[] 0 (.fresh 0 0 led) }
/-- what set.__init__ leaves behind -/
abbrev Filled (P : Program) (w : World) (s : Shared) (x : Str) (n : Nat) (u : Shared) : Prop := ∃ h' tk, u = { s with heap := h', toks := tk } ∧ SetIs P w h' s.heap.objs.size x n ∧ ∀ b o, b < s.heap.objs.size → s.heap.get? b = some o → h'.get? b = some o
section
variable {P : Program} {w : World} {A : Around} {E : Value → Shared → Prop} {s : Shared} {l : Addr} {items : Array Value} {x : Str}
theorem init_one (led : Bool) (hA : A.handled = none) (hl : s.heap.IsList l items) (hx : ∀ (i : Nat) (v : Value), items[i]? = some v → ∃ t, v = .str x t) :
    wpAny (model P w) A (Builtin.«set.__init__» ⟨[.ref s.heap.objs.size, .ref l], []⟩) (fun f u => f = .done (.ret .none) ∧ Filled P w s x items.size u) E { s with heap := s.heap.push (bare led) } := by
  obtain ⟨ob, hob, hcl, nl, hdl⟩ := hl
  obtain ⟨k1, k2, k3, k4⟩ := ob
  simp only at hcl hdl
  subst hcl hdl
  have old : (s.heap.push (bare led)).get? l = some { cls := .type "list", dict := k2, data := .seq items nl, slots := k4 } := Heap.get?_push_of_some _ hob
  have mine : (s.heap.push (bare led)).get? s.heap.objs.size = some (bare led) := Heap.get?_push_size _ rfl
  have isl : (s.heap.push (bare led)).IsList l items := ⟨_, old, rfl, nl, rfl⟩
  have g1 := PySem.F.sub_list_set
  have g2 := PySem.F.sub_list_frozenset
  have g3 : (Value.type "list" == Value.type "dict") = false := by decide
  unfold Builtin.«set.__init__» noKeywords Builtin.Frozenset.updateFrom
  generalize hi : pyIter = iter
  wp_walk
  subst hi
  have lt : l < s.heap.objs.size := Heap.lt_size hob
  have sz : (s.heap.push (bare led)).objs.size = s.heap.objs.size + 1 := Heap.size_push ..
  refine wpAny_pyIter_list isl ?_
  apply wpAny_bind
  apply wpAny_runValue
  have hB : A.in1.handled = none := by simp [hA]
  have far : l ≠ (s.heap.push (bare led)).objs.size := by rw [sz]; exact Nat.ne_of_lt (Nat.lt_succ_of_lt lt)
  refine fill_one ((Walks.list hB _ l far items).toS) (c := s.heap.objs.size) ?_ hx items.size 0 _ (Nat.zero_add _) ⟨⟨_, Heap.get?_push_size _ rfl, rfl, rfl⟩, isl.push _⟩ ?_ fun u mv hS => ?_
  · simp only [List.mem_cons, List.not_mem_nil, or_false, not_or]
    rw [sz]
    exact ⟨Nat.ne_of_lt (Nat.lt_succ_self _), Nat.ne_of_gt lt⟩
  · have z := ((PyProof.Rows.setObjOf_fresh (knd := PySem.strKind P w) led).setOf (Heap.get?_push_of_some { cls := .type "list_iterator", data := .fields #[.ref l, .int 0 0] } mine) (by unfold scanBound; omega))
    exact PyProof.Rows.SetOf_congr z (fun _ => rfl) rfl
  · obtain ⟨h1, g4, d1, tk1, os1⟩ := u
    obtain rfl : g4 = s.gens := mv.gens
    obtain rfl : d1 = s.drawn := mv.drawn
    obtain rfl : os1 = s.os := mv.os
    show wpAny _ _ _ _ _ _
    refine wpAny_pure ?_
    show wpAny _ _ (ret Value.none) _ _ _
    refine wpAny_pure ⟨rfl, h1, tk1, rfl, hS, fun b o hb ho => ?_⟩
    refine mv.heap b o ?_ (Heap.get?_push_of_some _ (Heap.get?_push_of_some _ ho))
    simp only [List.mem_cons, List.not_mem_nil, or_false, not_or]
    rw [sz]
    exact ⟨Nat.ne_of_lt hb, Nat.ne_of_lt (Nat.lt_succ_of_lt hb)⟩
theorem set_one {Q : Value → Shared → Prop} (hA : A.handled = none) (hl : s.heap.IsList l items) (hx : ∀ (i : Nat) (v : Value), items[i]? = some v → ∃ t, v = .str x t) (q : ∀ u, Filled P w s x items.size u → Q (.ref s.heap.objs.size) u) : wpAny (model P w) A (call (.type "set") [.ref l]) Q E s := by
  have c0 := PySem.F.called_set
  obtain ⟨c, tl, hm⟩ := c0.mro
  have h3 := c0.made
  have h4 := c0.sub
  apply wpAny_call
  apply codeAny_of_tree
  show wpAny _ _ (callAny (.type "set") _) _ _ _
  refine wpAny_pure ⟨Code.quiet_builtin _ (by decide +kernel), ?_⟩
  apply codeAny_builtin PySem.F.entry_type_call
  rw [Around.under_plain (weight_type_call_type "set" [.ref l] []) rfl]
  have h1 := c0.notType
  have h2 := c0.canCreate
  have h5 := PySem.F.typeCall_set_1 (.ref l)
  repeat any_goals first | assumption | wp_step
  refine codeAny_mono (code_set_new_1 (.ref l) (E := E) (Q₁ := fun v u => ∃ led : Bool, v = .ref s.heap.objs.size ∧ u = { s with heap := s.heap.push (bare led) }) fun led => ⟨led, rfl, rfl⟩) fun r u hr => ?_
  cases r with
  | error e => exact hr
  | ok fl =>
    cases fl with
    | ret v =>
      obtain ⟨led, rfl, rfl⟩ := hr
      have hS : (s.heap.push (bare led)).get? s.heap.objs.size = some (bare led) := Heap.get?_push_size _ rfl
      have hT : Shared.TypeIs { s with heap := s.heap.push (bare led) } (.ref s.heap.objs.size) "set" := ⟨_, hS, rfl⟩
      have h6 := c0.init.lookup
      have h7 := c0.init.bind (.ref s.heap.objs.size)
      repeat any_goals first | assumption | wp_step
      refine codeAny_mono (codeAny_call_builtin (R := wants (fun r u => r = .none ∧ Filled P w s x items.size u) E) c0.init.plain PySem.F.entry_set_init (check_set_init_1 hT ?_)) fun r2 u2 hr2 => ?_
      · refine wpAny_mono (init_one (E := E) led (by simp [hA]) hl hx) (fun f u ⟨e, h⟩ => ?_) (fun _ _ h => h)
        subst e
        exact ⟨rfl, h⟩
      · cases r2 with
        | error e => exact hr2
        | ok fl2 =>
          cases fl2 with
          | ret v2 =>
            obtain ⟨rfl, hf⟩ := hr2
            repeat any_goals first | assumption | wp_step
            exact q _ hf
          | _ => exact hr2.elim
    | _ => exact hr.elim
end
/-- len(set(xs)), xs a list of one text -/
def tLenOne (K : PySem.W.Frag) (t : TE) : TE := fun σ H Q => t σ H fun y H1 => ∃ (l : Addr) (n : Nat) (x : Str), y = .ref l ∧ SqL K H1 l (List.replicate n (.str x)) ∧ n ≤ 4000 ∧ Q (.int (min n 1 : Nat)) H1
theorem vals_rep {x : Str} : ∀ {n : Nat} {us : List Value}, Vals (List.replicate n (V.str x)) us → us.length = n ∧ ∀ (i : Nat) (v : Value), us[i]? = some v → ∃ t, v = .str x t
  | 0, _, .nil => ⟨rfl, fun i v h => by simp at h⟩
  | n + 1, _, .cons r t => by
    obtain ⟨h1, h2⟩ := vals_rep t
    refine ⟨by rw [List.length_cons, h1], fun i v h => ?_⟩
    cases i with
    | zero =>
      obtain ⟨k, rfl⟩ := r
      have h : some _ = some v := h
      cases h
      exact ⟨k, rfl⟩
    | succ i => exact h2 i v (by simpa using h)
theorem pe_lenOne {X : Cx} {e : Expr} {t : TE} {pl ps pe pos : Pos} (calm : X.calm = true) (g1 : Gl X "len") (m1 : X.mg "len" = none) (g2 : Gl X "set") (m2 : X.mg "set" = none) (he : PE X e t)
    (st : starEach [e] X.env = (false, eval e X.env) :: starEach [] X.env := by rfl) : PE X (.Call (.Name "len" pl) [.Call (.Name "set" ps) [e] [] pe] [] pos) (tLenOne X.K t) := ⟨fun pins s σ H Q I h => by
  refine Call_ (ld_blt I g1 m1 boot_len ?_)
  refine PyProof.Rows.callWith_builtin1 (PyProof.Rows.args_cons ?_ rfl) rfl rfl
  refine Call_ (ld_blt I g2 m2 boot_set ?_)
  refine PyProof.Rows.callWith_type1 (PyProof.Rows.args_cons (thn (he.run pins s σ H _ I h) fun v s1 hv => PyProof.Rows.args_nil ?_) st) st rfl
  obtain ⟨y, H1, I1, ry, l, n, x, rfl, hq, hn, q⟩ := hv
  cases ry
  obtain ⟨us, rv, isl, _⟩ := I1.list hq
  obtain ⟨hu, hx⟩ := vals_rep rv
  refine set_one (x := x) (I1.ok.hd calm) isl.isList (fun i v hv => hx i v (by simpa using hv)) fun u ⟨h', tk, e', hS, hk⟩ => ?_
  subst e'
  refine PyProof.Rows.args_nil ?_
  have hz : us.toArray.size = n := by rw [List.size_toArray, hu]
  rw [hz] at hS
  obtain ⟨o, a, b, c, ho, k1, k2, _, _, _, k3, k4⟩ := hS
  have I2 : Inv X pins σ H1 { s1 with heap := h', toks := tk } := I1.kept fun b o e => hk b o (Heap.lt_size e) e
  exact call_len_set ho k1 k2 k3 (by rw [k4]; omega) ⟨.int (min n 1 : Nat), H1, I2.tok _, ⟨_, by rw [k4]⟩, q⟩⟩
section
variable {ι : Type} {𝒳 : ι → Cx} {P : Program} {w : World} {K : PySem.W.Frag} {mg : Str → Option Value} {base : Heap} {k j : Nat} {C : Ctx} {Γ : List Ent} {e : Expr} {pos pf ps pe : Pos}
theorem dps_strs {R : Hp} {x : Str} : ∀ {n : Nat} {vs : List V}, DqAll K R vs (List.replicate n (.str x)) → vs = List.replicate n (.str x)
  | 0, _, .nil => rfl
  | n + 1, _, .cons a b => by
    cases a
    rw [dps_strs b]
    rfl
theorem j_lenOne {n : Nat} {x : Str} (F : Fam 𝒳 P w K mg base k) (m1 : mg "len" = none) (m2 : mg "set" = none) (he : JD 𝒳 K C e Γ (.list (List.replicate n (.str x)))) (hn : n ≤ 4000) (g1 : ∀ i, Gl (𝒳 i) "len" := by intro _; rfl) (g2 : ∀ i, Gl (𝒳 i) "set" := by intro _; rfl)
    (st : ∀ i, starEach [e] (𝒳 i).env = (false, eval e (𝒳 i).env) :: starEach [] (𝒳 i).env := by intro _; rfl) : JD 𝒳 K C (.Call (.Name "len" pf) [.Call (.Name "set" ps) [e] [] pe] [] pos) Γ (.int (min n 1 : Nat)) :=
  J.of (te := tLenOne K (stE 𝒳 e)) (fun i => by
    have z := pe_lenOne (X := 𝒳 i) (pl := pf) (ps := ps) (pe := pe) (pos := pos) (F.cm i) (g1 i) (by rw [F.mg i]; exact m1) (g2 i) (by rw [F.mg i]; exact m2) (stE_ok (e := e) i) (st i)
    rw [F.K i] at z
    exact z) fun H0 R H σ s w Q q => he H0 R H σ s w _ fun v d R1 H1 s1 d1 e1 => by
      subst e1
      cases d1 with
      | lst hr ha =>
        have e2 := dps_strs ha
        subst e2
        exact ⟨_, n, x, rfl, .inl (rd_up s1.w.sub hr), hn, q _ _ R1 H1 s1 (.int _) rfl⟩
end
end DL

namespace K10
open PySem PySem.Spec PyProof.Rows L2 DL
def topS (i : Nat) : Stmt := PySem.Challenge.pw_oneunheard_k10_views_beside_own_ones.main.body.getD i (.Pass ⟨0, 0, 0, 0⟩)
/-- a round: nobody unheard, or one by some -/
abbrev Round := Option (Nat × List Nat)
def encN (ms : List Nat) : PyData := .tuple (ms.map fun m => .int (m : Nat))
def encR : Round → PyData
  | none => .none
  | some (u, ms) => .tuple [.int (u : Nat), encN ms]
def hearsM (r : Round) (wk ot : Nat) : Bool := match r with
  | none => true
  | some (u, ms) => u != ot || !ms.contains wk
theorem shaped_N (ms : List Nat) : SeqAt.shaped (encN ms) = true := by
  have e : ms.map (fun m => PyData.int (m : Nat)) = (ms.map fun m : Nat => (m : Int)).map PyData.int := by rw [List.map_map]; rfl
  have h := shaped_ints (ms.map fun m : Nat => (m : Int))
  unfold encN
  rw [e]
  unfold SeqAt.shaped at h ⊢
  simpa [PyData.canLay0, PyData.depth] using h
theorem any_N (ms : List Nat) (wk : Nat) : ((ms.map fun m => PyData.int (m : Nat)).any fun y => PyData.eqv y (.int (wk : Nat))) = ms.contains wk := by
  induction ms with
  | nil => rfl
  | cons m ms ih =>
    rw [List.map_cons, List.any_cons, ih, List.contains_cons]
    congr 1
    by_cases e : m = wk
    · subst e
      simp [PyData.eqv]
    · have : (wk == m) = false := by simpa using fun h : wk = m => e h.symm
      rw [this]
      simp [PyData.eqv]
      omega
theorem beqN (u v : Nat) : (((u : Nat) : Int) == ((v : Nat) : Int)) = (u == v) := by
  by_cases e : u = v
  · subst e
    simp
  · have h : (u == v) = false := beq_eq_false_iff_ne.mpr e
    rw [h]
    exact beq_eq_false_iff_ne.mpr fun z => e (by omega)
def sHears : FS where
  α := Round × Nat × Nat
  enc a := [.dat (encR a.1), .dat (.int (a.2.1 : Nat)), .dat (.int (a.2.2 : Nat))]
  ok _ _ := True
  res a r := r = .dat (.bool (hearsM a.1 a.2.1 a.2.2))
section
variable {P : Program} {w : World} {K : PySem.W.Frag} {mg : Str → Option Value} {base : Heap} {k : Nat}
abbrev stHears : Stmt := topS 1
abbrev nHears : List Str := ["told", "worker", "other"]
theorem scHears : FnScope nHears nHears (defScope stHears) := ⟨rfl, rfl, rfl, by decide +kernel, rfl, by decide +kernel, by decide +kernel⟩
theorem ok_hears {f : Addr} {fd : FuncData} (F : Fun K "hears" "hears" stHears f fd) : FnG P w K mg base (k + 1) f fd nHears (spG K sHears) := by
  refine okJ F scHears (fun _ _ _ => rfl) (fun _ a m h => by simp [sHears] at h) fun cdv Ar fr sh Hh C ⟨r, wk, ot⟩ n FM _ _ => ?_
  refine js_one (j1_ret1 (d := .bool (hearsM r wk ot)) ?_ ⟨rfl, trivial⟩)
  cases r with
  | none => exact XD.is (j_orB (q := true) (j_cmp FM (j_name 0) j_non (.isN .none)) fun z => nomatch (show true = false from z)) rfl
  | some q =>
    obtain ⟨u, ms⟩ := q
    refine XD.is (j_orB (q := u != ot || !ms.contains wk) (j_cmp FM (j_name 0) j_non (.isN _)) fun _ => ?_) rfl
    refine XD.is (j_orB (q := !ms.contains wk) (j_cmp FM (j_ix FM (j_name 0) j_int (.tup _ _ (.int u) rfl)) (j_name 2) (.ne rfl rfl)) fun _ => j_one (XD.is (j_cmp FM (j_name 1) (j_ix FM (j_name 0) j_int (.tup _ _ (encN ms) rfl)) (.notInT rfl (shaped_N ms))) ?_)) ?_
    · rw [any_N]
    · show _ = PyData.bool (u != ot || !ms.contains wk)
      rw [show PyData.eqv (.int (u : Nat)) (.int (ot : Nat)) = (u == ot) from beqN u ot]
      rfl
/-! ### heard, view -/
def heardL (notes : List PyData) (r : Round) (wk : Nat) : List PyData := notes.mapIdx fun o x => if hearsM r wk o then x else .none
def sHeard : FS where
  α := List PyData × Round × Nat
  enc a := [.dat (.tuple a.1), .dat (encR a.2.1), .dat (.int (a.2.2 : Nat))]
  ok _ a := a.1.length ≤ 1000
  res a r := r = .dat (.tuple (heardL a.1 a.2.1 a.2.2))
abbrev stHeard : Stmt := topS 2
abbrev nHeard : List Str := ["notes", "told", "worker", "other", "note"]
theorem scHeard : FnScope nHeard ["notes", "told", "worker"] (defScope stHeard) := ⟨rfl, rfl, rfl, by decide +kernel, rfl, by decide +kernel, by decide +kernel⟩
theorem ok_heard {f fH : Addr} {fd fdH : FuncData} (F : Fun K "heard" "heard" stHeard f fd) (DH : Df K mg "hears" fH fdH nHears) (GH : FnG P w K mg base k fH fdH nHears (spG K sHears)) (mT : mg "tuple" = none) (mE : mg "enumerate" = none) : FnG P w K mg base (k + 1) f fd ["notes", "told", "worker"] (spG K sHeard) := by
  refine okJ F scHeard (fun _ _ _ => rfl) (fun _ a m h => by simp [sHeard] at h) fun cdv Ar fr sh Hh C ⟨notes, r, wk⟩ n FM ho _ => ?_
  refine js_one (j1_ret1 (d := .tuple (heardL notes r wk)) ?_ ⟨rfl, trivial⟩)
  refine XD.is (j_tuple FM mT (j_frz1 (jo_lc1 [("other", 3), ("note", 4)] (js := [3, 4]) (fun _ => true) (fun d => match d with
    | .tuple [.int i, x] => if hearsM r wk i.toNat then x else .none
    | _ => .none) FM (ji_enum FM mE (j_name 0) (.tup _)) (fun _ => blkOk_by (show blkC nHeard (defScope stHeard) _ [("other", 3), ("note", 4)] = true by decide +kernel)) (by intro v hv; simp at hv; rcases hv with rfl | rfl <;> rfl) (by intro j hj; simpa using hj) ?_ ?_)) (.list _)) ?_
  · unfold enumd
    rw [List.length_mapIdx]
    exact Nat.le_trans ho (by decide)
  · intro d hd
    obtain ⟨o, hd⟩ := List.mem_iff_getElem?.mp hd
    obtain ⟨x, hx, rfl⟩ := enumd_get hd
    refine ⟨_, jg_pair 3 4 (FM.blk _), jts_nil, fun _ => ?_⟩
    refine j_if (jt_val1 (j_call1 (r, wk, o) (FM.blk _) DH GH (ja_cons (j_name 1) (ja_cons (j_name 2) (ja_one (j_name 3)))) ⟨rfl, fun m => by simp [sHears], trivial⟩ (fun _ e => ⟨_, e, rfl⟩))) (fun _ => j_name 4) fun _ => j_non
  · congr 1
    rw [List.filter_eq_self.mpr (fun _ _ => rfl)]
    apply List.ext_getElem?
    intro i
    unfold enumd heardL
    rw [List.getElem?_map, List.getElem?_mapIdx, List.getElem?_mapIdx, Option.map_map]
    rfl
def stepL (vs : List PyData) (r : Round) : List PyData := (List.range vs.length).map fun one => .tuple (heardL vs r one)
theorem stepL_len (vs : List PyData) (r : Round) : (stepL vs r).length = vs.length := by
  unfold stepL
  rw [List.length_map, List.length_range]
def viewsL (inputs : List PyData) (rs : List Round) : List PyData := rs.foldl stepL inputs
theorem viewsL_len (rs : List Round) : ∀ inputs : List PyData, (viewsL inputs rs).length = inputs.length := by
  induction rs with
  | nil => intro i; rfl
  | cons r rs ih =>
    intro i
    show (viewsL (stepL i r) rs).length = _
    rw [ih, stepL_len]
def encS (rs : List Round) : PyData := .tuple (rs.map encR)
def sView : FS where
  α := List PyData × List Round × Nat
  enc a := [.dat (.tuple a.1), .dat (encS a.2.1), .dat (.int (a.2.2 : Nat))]
  ok _ a := a.1.length ≤ 1000 ∧ a.2.2 < a.1.length
  res a r := ∃ d, (viewsL a.1 a.2.1)[a.2.2]? = some d ∧ r = .dat d
abbrev stView : Stmt := topS 3
abbrev nView : List Str := ["inputs", "schedule", "worker", "views", "told", "one"]
theorem scView : FnScope nView ["inputs", "schedule", "worker"] (defScope stView) := ⟨rfl, rfl, rfl, by decide +kernel, rfl, by decide +kernel, by decide +kernel⟩
theorem ok_view {f fH : Addr} {fd fdH : FuncData} (F : Fun K "view" "view" stView f fd) (DH : Df K mg "heard" fH fdH ["notes", "told", "worker"]) (GH : FnG P w K mg base k fH fdH ["notes", "told", "worker"] (spG K sHeard)) (mT : mg "tuple" = none) (mR : mg "range" = none) (mL : mg "len" = none) : FnG P w K mg base (k + 1) f fd ["inputs", "schedule", "worker"] (spG K sView) := by
  refine okJ F scView (fun _ _ _ => rfl) (fun _ a m h => by simp [sView] at h) fun cdv Ar fr sh Hh C ⟨ins, rs, wk⟩ n FM ⟨ho, hw⟩ _ => ?_
  refine js_cons1 (j1_set1 3 FM (j_tuple FM mT (j_name 0) (.tup _))) ?_
  refine js_cons (M := fun Γ => ∃ u, Γ = [.dat (.tuple ins), .dat (encS rs), .dat (.int (wk : Nat)), .dat (.tuple (viewsL ins rs)), u, .unk]) (j1_for (js := [4]) (fun _ i Γ => ∃ u, Γ = [.dat (.tuple ins), .dat (encS rs), .dat (.int (wk : Nat)), .dat (.tuple (viewsL ins (rs.take i))), u, .unk]) FM (ji_seq FM (j_name 1) (.tup _)) (fun ds e => ⟨.unk, rfl⟩) (fun ds i d Γ1 e hd ⟨u, e1⟩ => ?_) (fun ds Γ e h => ?_)) ?_
  · subst e e1
    obtain ⟨r, hr, rfl⟩ : ∃ r, rs[i]? = some r ∧ encR r = d := by
      rw [List.getElem?_map] at hd
      exact Option.map_eq_some_iff.mp hd
    have vl : (viewsL ins (rs.take i)).length ≤ 1000 := by rw [viewsL_len]; exact ho
    have nxt : viewsL ins (rs.take (i + 1)) = stepL (viewsL ins (rs.take i)) r := by
      unfold viewsL
      rw [List.take_add_one, hr, Option.toList_some, List.foldl_append]
      rfl
    generalize viewsL ins (rs.take i) = vs at vl nxt ⊢
    refine ⟨_, jg_name 4 FM, js_one (j1_set 3 FM (PP := (· = .tuple (stepL vs r))) ?_ (fun _ e => ?_))⟩
    · refine XD.is (j_tuple FM mT (j_frz1 (jo_lc1 [("one", 5)] (js := [5]) (fun _ => true) (fun d => match d with
        | .int i => .tuple (heardL vs r i.toNat)
        | _ => .none) FM (ji_rng1 FM mR (j_len FM mL (j_name 3) (.tup _)) ⟨by omega, by omega⟩) (fun _ => blkOk_by (show blkC nView (defScope stView) _ [("one", 5)] = true by decide +kernel)) (by intro v hv; simp at hv; subst hv; rfl) (by intro j hj; simpa using hj) ?_ ?_)) (.list _)) ?_
      · simp only [rng, List.length_map, List.length_range]
        omega
      · intro d hd
        obtain ⟨o, hd⟩ := List.mem_iff_getElem?.mp hd
        obtain ⟨_, rfl⟩ := rng_get hd
        rw [Int.zero_add]
        exact ⟨_, jg_name 5 (FM.blk _), jts_nil, fun _ => j_call1 (vs, r, o) (FM.blk _) DH GH (ja_cons (j_name 3) (ja_cons (j_name 4) (ja_one (j_name 5)))) ⟨rfl, fun m => by simp [sHeard], (show sHeard.ok C0 (vs, r, o) from vl)⟩ (fun _ e => ⟨_, e, rfl⟩)⟩
      · congr 1
        rw [List.filter_eq_self.mpr (fun _ _ => rfl)]
        unfold rng stepL
        rw [List.map_map]
        refine List.map_congr_left fun o _ => ?_
        show PyData.tuple (heardL vs r (0 + (o : Int)).toNat) = _
        rw [Int.zero_add]
        rfl
    · subst e
      exact ⟨_, by rw [nxt]; rfl⟩
  · subst e
    rw [List.length_map, List.take_length] at h
    exact h
  · intro Γ ⟨u, e⟩
    subst e
    obtain ⟨d, hd⟩ : ∃ d, (viewsL ins rs)[wk]? = some d := by
      have h : wk < (viewsL ins rs).length := by rw [viewsL_len]; exact hw
      exact ⟨_, List.getElem?_eq_getElem h⟩
    exact js_one (j1_ret1 (j_ix FM (j_name 3) (j_name 2) (.tup _ _ d (atI_nat hd))) ⟨⟨d, hd, rfl⟩, trivial⟩)
end
end K10

namespace K10
open PySem PySem.Spec PyProof.Rows L2 DL
abbrev sDrawS : Stmt := topS 6
abbrev nDraw : List Str := ["_law_deck_here", "_law_many", "_law_turn", "_law_cell", "_law_mixed"]
theorem scDraw : FnScope nDraw ["_law_deck_here", "_law_many"] (defScope sDrawS) := ⟨rfl, rfl, rfl, by decide +kernel, rfl, by decide +kernel, by decide +kernel⟩
section
variable {P : Program} {w : World} {K : PySem.W.Frag} {mg : Str → Option Value} {base : Heap}
theorem ok_draw {f : Addr} {fd : FuncData} {k : Nat} (F : Fun K "_law_draw" "_law_draw" sDrawS f fd) (mI : mg "int" = none) : FnG P w K mg base (k + 1) f fd ["_law_deck_here", "_law_many"] (spG K sDraw) := by
  refine okD F scDraw (fun C a h => rfl) (fun e => nomatch e) (fun cdv Ar fr sh Hh C a n rm gd h hb => ?_)
  let X : Cx := (cxOf CX0 P w K mg base nDraw "_law_draw" (defScope sDrawS) f cdv Ar fr sh Hh E0).nox
  have hu : X.A.units + 1 < cLine := by
    have := (show Room k X.A from rm).un
    omega
  have v0 : ∀ {pos : Pos}, PE X (.Name "_law_deck_here" pos) (tVar 0) := pe_var rfl (by first | exact Or.inl rfl | exact Or.inr (Or.inl rfl) | exact Or.inr (Or.inr rfl))
  have v1 : ∀ {pos : Pos}, PE X (.Name "_law_many" pos) (tVar 1) := pe_var rfl (by first | exact Or.inl rfl | exact Or.inr (Or.inl rfl) | exact Or.inr (Or.inr rfl))
  have v2 : ∀ {pos : Pos}, PE X (.Name "_law_turn" pos) (tVar 2) := pe_var rfl (by first | exact Or.inl rfl | exact Or.inr (Or.inl rfl) | exact Or.inr (Or.inr rfl))
  have v3 : ∀ {pos : Pos}, PE X (.Name "_law_cell" pos) (tVar 3) := pe_var rfl (by first | exact Or.inl rfl | exact Or.inr (Or.inl rfl) | exact Or.inr (Or.inr rfl))
  have v4 : ∀ {pos : Pos}, PE X (.Name "_law_mixed" pos) (tVar 4) := pe_var rfl (by first | exact Or.inl rfl | exact Or.inr (Or.inl rfl) | exact Or.inr (Or.inr rfl))
  have dg : ∀ {x : Str} {n : Nat} {p1 p2 pos : Pos}, PE X (.Subscript (.Name "_law_deck_here" p1) (.Constant (.str x) n p2) pos) (tDGet (tVar 0) (tC (.str x))) := pe_dget hu v0 pe_str (fun _ _ => rfl)
  have int : ∀ {e : Expr} {te : TE} {p1 pos : Pos}, PE X e te → (starEach [e] X.env = (false, eval e X.env) :: starEach [] X.env) → PE X (.Call (.Name "int" p1) [e] [] pos) (tCB _ (tCons te tNil)) := fun he hs => pe_callTy call_int1 rfl mI (by decide +kernel) (pa_cons he pa_nil hs) (by decide) (by decide) hs rfl
  have add : OpR X (binaryOp .Add) (rI0 fun i j => .int (i + j)) := op_add
  have mul : OpR X (binaryOp .Mult) (rI CMul fun i j => .int (i * j)) := op_mul
  have mod : OpR X (binaryOp .Mod) (rI (fun _ j => j ≠ 0) fun i j => .int (i.fmod j)) := op_modN
  have div : OpR X (binaryOp .FloorDiv) (rI CDivN fun i j => .int (i.fdiv j)) := op_fdivN
  have pow : OpR X (binaryOp .Pow) (rI CPow fun i j => .int (i ^ j.toNat)) := op_pow
  refine ⟨_, pss_cons (ps_dput hu v0 pe_str (pe_op add dg pe_int) rfl) (pss_cons (ps_par rfl scDraw.nd (x := "_law_turn") (y := "_law_cell") (i := 2) (j := 3) rfl rfl (by decide) rfl rfl (pa_cons dg (pa_cons dg pa_nil rfl) rfl) rfl rfl)
    (pss_cons (ps_if (pt_cmpR (r := rNeD K) (op_neD rm.units) dg (pe_lst pa_nil) rfl)
      (pss_cons (ps_set scDraw.nd (i := 3) rfl (Or.inl rfl) (pe_bm0 PySem.F.plainAttrs_list PySem.F.slot_list_pop PySem.F.type_list_pop mt_pop dg rfl rfl) rfl (.inl rfl))
        (pss_cons (ps_if (pt_cmpR op_ge v3 (pe_op pow pe_int pe_int) rfl)
          (pss_cons (ps_expr (pe_bm PySem.F.plainAttrs_list PySem.F.slot_list_append PySem.F.type_list_append mt_append dg (pa_cons (pe_op div v3 v1) pa_nil rfl) rfl rfl rfl rfl rfl) rfl)
            (pss_one (ps_ret (pe_op mod (int v3 rfl) v1)))) pss_nil)
          (pss_one (ps_set scDraw.nd (i := 3) rfl (Or.inl rfl) (pe_op add v3 dg) rfl (.inl rfl))))) pss_nil)
    (pss_cons (ps_set scDraw.nd (i := 4) rfl (Or.inl rfl) (pe_op mod (int (pe_op mul (pe_op add (pe_op add (pe_op mod (int v3 rfl) pe_int) (pe_op mul (pe_op mul pe_int v2) v2)) pe_int) pe_int) rfl) pe_int) rfl (.inl rfl))
      (pss_cons (ps_set scDraw.nd (i := 4) rfl (Or.inl rfl) (pe_op mod (int (pe_op add (pe_op add (pe_op mul v4 v4) (pe_op mul pe_int v2)) pe_int) rfl) pe_int) rfl (.inl rfl))
        (pss_one (ps_ret (pe_op mod (pe_op div (pe_op mod (int (pe_op mul v4 pe_int) rfl) pe_int) pe_int) v1))))))), ?_⟩
  obtain ⟨⟨p, q, rfl⟩, ha1, ha2⟩ := h
  exact draw_run (many := a) (by decide) (by decide) (by decide) (by decide) (by decide) (by decide) (by decide) (by decide) (by decide) ha1 ha2 hb
abbrev sDeckS : Stmt := topS 5
abbrev nDeck : List Str := ["_law_script", "_law_cells", "_law_mixed", "_law_cell"]
theorem scDeck : FnScope nDeck ["_law_script"] (defScope sDeckS) := ⟨rfl, rfl, rfl, by decide +kernel, rfl, by decide +kernel, by decide +kernel⟩
theorem ok_deck {f : Addr} {fd : FuncData} {k : Nat} (F : Fun K "_law_deck" "_law_deck" sDeckS f fd) (mI : mg "int" = none) (mL : mg "list" = none) : FnG P w K mg base (k + 1) f fd ["_law_script"] (spDeck K) := by
  refine okG F scDeck (fun vs H Q E h => ?_) (fun cdv Ar fr sh Hh vs Q rm gd h => ?_)
  · obtain ⟨R, ns, v, a, rfl, _⟩ := h
    rfl
  · obtain ⟨R, ns, v, a, rfl, hl, wd, rfl, sq, q⟩ := h
    let 𝒳 : Unit → Cx := fun _ => (cxOf CX0 P w K mg base nDeck "_law_deck" (defScope sDeckS) f cdv Ar fr sh Hh E0).nox
    have FM : Fam 𝒳 P w K mg base k := ⟨fun _ => rfl, fun _ => rfl, fun _ => rfl, fun _ => rfl, fun _ => rfl, fun _ => rm, fun _ => gd, fun _ => rfl, fun _ => scDeck.nd, fun _ => PassesOwn.never⟩
    have at0 : At K C0 Hh R Hh R (start nDeck [V.ref a]) (ini 4 (deal 0 [.scr ns])) := at_start wd (.cons ⟨a, rfl, sq⟩ .nil) (fun m hm => by simp at hm) (by show 1 ≤ 4; decide)
    have nm : ∀ {i : Nat} {x : Str} {pos : Pos}, nDeck[i]? = some x → (Vis (𝒳 ()).env.scope x) → (x == ("__debug__" : Str)) = false → (x == ("__classdict__" : Str)) = false → PE (𝒳 ()) (.Name x pos) (tVar i) := fun h1 h2 h3 h4 => pe_var h1 h2 h3 h4
    refine ⟨tSeq (stS 𝒳 _) (tSeq (stS 𝒳 _) (tRet (deckRet K 1 2))), pss_cons (stS_ok (𝒳 := 𝒳) ()) (pss_cons (stS_ok (𝒳 := 𝒳) ()) (pss_one (ps_ret (pe_disp (pps_cons pe_str (pe_revL (nm rfl (Or.inl rfl) (by decide) (by decide))) (pps_cons pe_str (nm rfl (Or.inl rfl) (by decide) (by decide)) (pps_cons pe_str pe_int pps_nil))) rfl rfl (by simp) (by decide))))), ?_⟩
    have cl := cut_len ns (some 63)
    generalize hcs : DL.cutD ns none (some 63) = cs at cl
    refine XS.run1 at0 (N := (· = [.scr ns, .dat (.list (cs.map .int)), .dat (.int 92010), .unk])) ?_ fun σ1 H1 R1 Γ1 e at1 => ?_
    · exact j1_par 1 2 FM (ja_cons (j_frz1 (jo_list FM mL (j_frz1 (jo_sliceScr 0 FM jp_none (jp_some j_int))) (.list _))) (ja_one j_int)) (fun rs e => ⟨_, _, e, by rw [hcs]; rfl⟩)
    subst e
    refine XS.run1 at1 (N := fun Γ => ∃ m u, 0 ≤ m ∧ m < 2147483587 ∧ Γ = [.scr ns, .dat (.list (cs.map .int)), .dat (.int m), u]) ?_ fun σ2 H2 R2 Γ2 ⟨m, u, m0, m1, e⟩ at2 => ?_
    · refine j1_for (js := [3]) (fun _ _ Γ => ∃ m u, 0 ≤ m ∧ m < 2147483587 ∧ Γ = [.scr ns, .dat (.list (cs.map .int)), .dat (.int m), u]) FM (ji_seq FM (j_name 1) (.list _)) (fun ds e => ⟨92010, .unk, by decide, by decide, rfl⟩)
        (fun ds i d Γ1 e hd ⟨m, u, m0, m1, e1⟩ => ?_) (fun _ _ _ h => h)
      subst e e1
      obtain ⟨c, _, rfl⟩ : ∃ c, cs[i]? = some c ∧ PyData.int c = d := by
        rw [List.getElem?_map] at hd
        exact Option.map_eq_some_iff.mp hd
      obtain ⟨z0, z1⟩ := fmod_in (i := m * 48271 + c.fmod 2147483629 + 73) (j := 2147483587) (by decide)
      refine ⟨_, jg_name 3 FM, js_one (j1_set 2 FM (j_bin FM (j_intC FM mI (j_bin FM (j_bin FM (j_bin FM (j_name 2) j_int (.mulI m 48271 (.inr ⟨by decide, by decide⟩))) (j_bin FM (j_intC FM mI (j_name 3) (.int c)) j_int (.modI _ _ (by decide))) (.addI _ _)) j_int (.addI _ _)) (.int _)) j_int (.modI _ _ (by decide))) (fun _ e => ?_))⟩
      subst e
      exact ⟨_, _, z0, z1, rfl⟩
    subst e
    exact deck_ret at2 rfl rfl fun p c H' ne hp hc st rp rc is => q p c cs.reverse m R2 H' ne hp hc st rp rc is (by rw [List.length_reverse]; omega) m0 (by omega)
end
end K10

namespace K10
open PySem PySem.Spec PyProof.Rows L2 DL
section
variable {P : Program} {w : World} {K : PySem.W.Frag} {mg : Str → Option Value} {base : Heap} {k : Nat}
abbrev stPick : Stmt := topS 7
abbrev nPick : List Str := ["_law_deck_here", "_law_some"]
theorem scPick : FnScope nPick nPick (defScope stPick) := ⟨rfl, rfl, rfl, by decide +kernel, rfl, by decide +kernel, by decide +kernel⟩
theorem ok_pick {f fH : Addr} {fd fdH : FuncData} (F : Fun K "_law_pick" "_law_pick" stPick f fd) (DH : Df K mg "_law_draw" fH fdH ["_law_deck_here", "_law_many"]) (GH : FnG P w K mg base k fH fdH ["_law_deck_here", "_law_many"] (spG K sDraw)) (mL : mg "len" = none) : FnG P w K mg base (k + 1) f fd nPick (spG K sPick) := by
  refine okJ F scPick (fun _ _ _ => rfl) (fun e => nomatch e) fun cdv Ar fr sh Hh C (ds : List PyData) n FM ⟨hC, h0, h1⟩ hb => ?_
  have l0 : 0 < ds.length := List.length_pos_iff.mpr h0
  refine js_one (j1k_ret (κ := 0 + (0 + 1)) (PP := fun d => d ∈ ds) (jk_ixP (κ := 0) FM (Pa := (· = .list ds)) (Pb := fun _ d => ∃ i, d = .int i ∧ 0 ≤ i ∧ i < ds.length) (j_name 1) (fun x _ => ?_) ?_) (fun d hd => ⟨⟨d, hd, rfl⟩, 0, _, rfl, ?_⟩))
  · exact j_draw 0 FM DH GH hC hb (j_len FM mL (j_name 1) (.list _)) (by omega) (by omega)
  · rintro x y rfl ⟨i, rfl, a, b⟩
    obtain ⟨d, h1, h2⟩ := pick_get a b
    exact ⟨d, .list _ _ _ h1, h2⟩
  · exact Nat.le_refl _
theorem shaped_nats (ms : List Nat) : SeqAt.shaped (.list (nats ms)) = true := by
  have h := shaped_N ms
  unfold SeqAt.shaped encN at *
  simpa [PyData.canLay0, PyData.depth] using h
/-! ### a round -/
def WfR (m : Nat) : Round → Prop
  | none => True
  | some (u, ms) => u < m ∧ ms ≠ [] ∧ ms.length ≤ 9 ∧ ∀ x, x ∈ ms → x < m ∧ x ≠ u
def sRound : FS where
  α := Nat
  enc m := [.dck 0, .dat (.int (m : Nat))]
  ok C m := IsDeck C ∧ 2 ≤ m ∧ m ≤ 9
  res m r := ∃ q, WfR m q ∧ r = .dat (encR q)
  κ := some 20
abbrev stRound : Stmt := topS 8
abbrev nRound : List Str := ["_law_deck_here", "_law_many", "_law_manner", "_law_spot", "_law_others", "_law_other", "_law_some"]
theorem scRound : FnScope nRound ["_law_deck_here", "_law_many"] (defScope stRound) := ⟨rfl, rfl, rfl, by decide +kernel, rfl, by decide +kernel, by decide +kernel⟩
def others (m u : Nat) : List Nat := (List.range m).filter (· != u)
theorem others_in {m u x : Nat} (h : x ∈ others m u) : x < m ∧ x ≠ u := by
  unfold others at h
  rw [List.mem_filter, List.mem_range] at h
  exact ⟨h.1, by simpa using h.2⟩
theorem others_len (m u : Nat) : (others m u).length ≤ m := by
  have := List.length_filter_le (· != u) (List.range m)
  rw [List.length_range] at this
  exact this
theorem others_ne {m u : Nat} (h : 2 ≤ m) : others m u ≠ [] := fun e => by
  have h0 : (if u = 0 then 1 else 0) ∈ others m u := by
    unfold others
    rw [List.mem_filter, List.mem_range]
    by_cases z : u = 0
    · subst z
      simp
      omega
    · rw [if_neg z]
      refine ⟨by omega, ?_⟩
      simp
      omega
  rw [e] at h0
  cases h0
/-- others, as data -/
def neTo (u : Nat) : PyData → Bool
  | .int i => i != (u : Nat)
  | _ => false
theorem others_lc (m u : Nat) : ((rng 0 m).filter (neTo u)).map id = nats (others m u) := by
  rw [List.map_id]
  unfold rng others nats
  rw [List.filter_map]
  have e : List.filter (neTo u ∘ fun i : Nat => PyData.int (0 + (i : Nat))) (List.range m) = (List.range m).filter (· != u) := by
    refine List.filter_congr fun i _ => ?_
    show ((0 + (i : Int)) != (u : Int)) = (i != u)
    rw [Int.zero_add]
    unfold bne
    rw [beqN]
  rw [e]
  refine List.map_congr_left fun i _ => ?_
  rw [Int.zero_add]
theorem ok_round {f fH fP : Addr} {fd fdH fdP : FuncData} (F : Fun K "_law_round" "_law_round" stRound f fd) (DH : Df K mg "_law_draw" fH fdH ["_law_deck_here", "_law_many"]) (GH : FnG P w K mg base k fH fdH ["_law_deck_here", "_law_many"] (spG K sDraw)) (DP : Df K mg "_law_pick" fP fdP nPick) (GP : FnG P w K mg base k fP fdP nPick (spG K sPick)) (mR : mg "range" = none) (mT : mg "tuple" = none) : FnG P w K mg base (k + 1) f fd ["_law_deck_here", "_law_many"] (spG K sRound) := by
  refine okJ F scRound (fun _ _ _ => rfl) (fun e => nomatch e) fun cdv Ar fr sh Hh C (m : Nat) n FM ⟨hC, h2, h9⟩ hb => ?_
  have hb : n + 20 ≤ cap := hb
  refine js_cons (M := fun Γ => ∃ a u : Nat, u < m ∧ Γ = [.dck (n + 2), .dat (.int (m : Nat)), .dat (.int (a : Nat)), .dat (.int (u : Nat)), .unk, .unk, .unk]) (j1k_asg (js := [2, 3]) (κ := 1 + 1) (j_tupP (PL := fun ds => ∃ a u : Nat, u < m ∧ ds = [.int (a : Nat), .int (u : Nat)])
    (jak_consP (j_draw 0 (n := n) FM DH GH hC (by omega) j_int (by decide) (by decide)) (Pb := fun _ rs => ∃ u : Nat, u < m ∧ rs = [.dat (.int (u : Nat))]) (fun x _ => ?_) ?_) ?_) ?_) ?_
  · refine XAk.imp (jak_oneP (j_draw 0 FM DH GH hC (n := n + 1) (by omega) (j_name 1) (m := (m : Nat)) (by omega) (by omega))) ?_
    rintro rs ⟨ds, rfl, x, rfl, i, rfl, i0, i1⟩
    exact ⟨i.toNat, by omega, by rw [Int.toNat_of_nonneg i0]; rfl⟩
  · rintro x rs ⟨i, rfl, i0, i1⟩ ⟨u, hu, rfl⟩
    exact ⟨[.int i, .int (u : Nat)], rfl, i.toNat, u, hu, by rw [Int.toNat_of_nonneg i0]⟩
  · rintro ds ⟨a, u, _, rfl⟩
    show 2 ≤ 100000
    decide
  · rintro d ⟨ds, rfl, a, u, hu, rfl⟩
    exact ⟨_, jg_pair 2 3 FM, a, u, hu, rfl⟩
  rintro Γ ⟨a, u, hu, rfl⟩
  refine js_cons (M := (· = [.dck (n + 2), .dat (.int (m : Nat)), .dat (.int (a : Nat)), .dat (.int (u : Nat)), .dat (.list (nats (others m u))), .unk, .unk])) (j1_setLc 4 [("_law_other", 5)] FM (js := [5]) (T := fun d b => b = neTo u d) (E := fun d e => e = id d) (PL := (· = rng 0 m))
    (ji_rng1 FM mR (n := (m : Nat)) (j_name 1) ⟨by omega, by omega⟩) (fun _ => blkOk_by (show blkC nRound (defScope stRound) _ [("_law_other", 5)] = true by decide +kernel)) (by intro v hv; simp at hv; subst hv; rfl) (by intro j hj; simpa using hj) ?_ ?_ ?_) ?_
  · rintro ds rfl
    simp only [rng, List.length_map, List.length_range]
    omega
  · rintro ds d rfl hd
    obtain ⟨o, hd⟩ := List.mem_iff_getElem?.mp hd
    obtain ⟨_, rfl⟩ := rng_get hd
    exact ⟨_, jg_name 5 (FM.blk _), jts_one (jt_cmp (FM.blk _) (j_name 5) (j_name 3) (.ne rfl rfl)), fun _ => j_name 5⟩
  · rintro ds es rfl lr
    rw [lr.det, others_lc]
    rfl
  rintro Γ rfl
  refine js_cons (M := (· = [.dck (n + 2), .dat (.int (m : Nat)), .dat (.int (a : Nat)), .dat (.int (u : Nat)), .dat (.list (nats (others m u))), .unk, .unk])) (j1_if1 (jt_cmp FM (j_name 2) j_int (.eq rfl rfl)) (fun _ => js_one (j1_ret1 j_non ⟨⟨none, trivial, rfl⟩, 0, n + 2, rfl, by omega⟩)) (fun _ => js_nil)) ?_
  rintro Γ rfl
  refine js_cons (M := (· = [.dck (n + 2), .dat (.int (m : Nat)), .dat (.int (a : Nat)), .dat (.int (u : Nat)), .dat (.list (nats (others m u))), .unk, .unk])) (j1_if1 (jt_cmp FM (j_name 2) j_int (.eq rfl rfl)) (fun _ => js_one (j1_ret1 (j_tup (ja_cons (j_name 3) (ja_one (j_tuple FM mT (j_name 4) (.list _))))) ⟨⟨some (u, others m u), ⟨hu, others_ne h2, Nat.le_trans (others_len m u) h9, fun x hx => others_in hx⟩, rfl⟩, 0, n + 2, rfl, by omega⟩)) (fun _ => js_nil)) ?_
  rintro Γ rfl
  refine js_cons (M := fun Γ => ∃ ms : List Nat, ms.length ≤ 9 ∧ (∀ x, x ∈ ms → x ∈ others m u) ∧ Γ = [.dck (n + 11), .dat (.int (m : Nat)), .dat (.int (a : Nat)), .dat (.int (u : Nat)), .dat (.list (nats (others m u))), .unk, .dat (.list (nats ms))]) (j1k_setLc 6 [("_law_other", 5)] FM (js := [5]) (κ0 := 0) (κt := 1) (κe := 0) (L := 9) (T := fun _ _ => True) (E := fun d e => e = d) (PL := (· = nats (others m u)))
    (ji_seq FM (j_name 4) (.list _)) (fun _ => blkOk_by (show blkC nRound (defScope stRound) _ [("_law_other", 5)] = true by decide +kernel)) (by intro v hv; simp at hv; subst hv; rfl) (by intro j hj; simpa using hj) ?_ ?_ ?_ ?_) ?_
  · rintro ds rfl
    rw [List.length_map]
    exact Nat.le_trans (Nat.le_trans (others_len m u) h9) (by decide)
  · rintro ds rfl
    rw [List.length_map]
    exact Nat.le_trans (others_len m u) h9
  · rintro ds d c rfl hd hc
    obtain ⟨o, _, rfl⟩ := List.mem_map.mp hd
    refine ⟨_, jg_name 5 (FM.blk _), ?_, fun _ => ?_⟩
    · refine jtsk_one (jtk_cmpP (κ := 1) (κ' := 0) (FM.blk _) (j_draw 0 (n := n + 2 + c) (FM.blk _) DH GH hC (by omega) j_int (by decide) (by decide)) (Pb := fun _ y => y = .int 0) (fun _ _ => j_int) ?_)
      rintro x y ⟨i, rfl, _, _⟩ rfl
      exact ⟨_, .eq rfl rfl, trivial⟩
    · exact j_name 5
  · rintro ds es rfl lr
    obtain ⟨ms, rfl, hm⟩ := nats_of fun e he => lr.sub e he
    refine ⟨ms, ?_, hm, rfl⟩
    have := lr.len
    rw [List.length_map, List.length_map] at this
    exact Nat.le_trans this (Nat.le_trans (others_len m u) h9)
  rintro Γ ⟨ms, hl, hms, rfl⟩
  refine js_one (j1k_ret (κ := 0 + 1) (PP := fun d => ∃ ws : List Nat, ws ≠ [] ∧ ws.length ≤ 9 ∧ (∀ x, x ∈ ws → x ∈ others m u) ∧ d = .tuple [.int (u : Nat), .tuple (nats ws)]) ?_ ?_)
  · refine XDk.imp (j_tupP (κ := 0 + 1) (PL := fun ds => ∃ ws : List Nat, (ws ≠ [] ∧ ws.length ≤ 9 ∧ ∀ x, x ∈ ws → x ∈ others m u) ∧ ds = [.int (u : Nat), .tuple (nats ws)]) (jak_consP (κ := 0) (κ' := 1) (PP := (· = .int (u : Nat))) (j_name 3) (Pb := fun _ rs => ∃ ws : List Nat, (ws ≠ [] ∧ ws.length ≤ 9 ∧ ∀ x, x ∈ ws → x ∈ others m u) ∧ rs = [.dat (.tuple (nats ws))]) (fun x _ => ?_) ?_) ?_) ?_
    · refine XAk.imp (jak_oneP (jk_tupleP FM mT (PL := fun ds => ∃ ws : List Nat, (ws ≠ [] ∧ ws.length ≤ 9 ∧ ∀ x, x ∈ ws → x ∈ others m u) ∧ ds = nats ws) (jk_ifP (κ := 0) (κ' := 1) (B := fun b => b = true → ms ≠ []) ?_ ?_ ?_))) ?_
      · refine XT.imp (jt_cmp FM (j_name 6) (j_frz1 (jo_lst (ds := []) ja_nil)) (.ne (shaped_nats ms) rfl)) ?_
        rintro b rfl hb z
        subst z
        exact absurd hb (by decide)
      · intro hb
        exact XDk.le (XD.imp (j_name 6) (fun d e => ⟨_, e, ms, ⟨hb rfl, hl, hms⟩, rfl⟩)) (Nat.zero_le _)
      · intro _
        refine XDk.imp (j_frz (PL := fun ds => ∃ x, ds = [x] ∧ x ∈ nats (others m u)) (jo_lstP (XAk.imp (jak_oneP (j_pick 0 (n := n + 11) FM DP GP hC (by omega) (j_name 4) ?_ ?_)) ?_) ?_)) ?_
        · intro z
          exact others_ne h2 (List.map_eq_nil_iff.mp z)
        · rw [List.length_map]
          exact Nat.le_trans (Nat.le_trans (others_len m u) h9) (by decide)
        · rintro rs ⟨ds, rfl, x, rfl, hx⟩
          exact ⟨_, rfl, x, rfl, hx⟩
        · rintro ds ⟨x, rfl, _⟩
          show 1 ≤ 100000
          decide
        · rintro d ⟨ds, rfl, x, rfl, hx⟩
          obtain ⟨o, ho, rfl⟩ := List.mem_map.mp hx
          exact ⟨_, rfl, [o], ⟨(fun z => nomatch z), (by show 1 ≤ 9; decide), fun y hy => by
            rw [List.mem_singleton] at hy
            rw [hy]
            exact ho⟩, rfl⟩
      · rintro rs ⟨ds, rfl, x, rfl, ds2, rfl, ws, hw, rfl⟩
        exact ⟨ws, hw, rfl⟩
    · rintro x rs rfl ⟨ws, hw, rfl⟩
      exact ⟨_, rfl, ws, hw, rfl⟩
    · rintro ds ⟨ws, _, rfl⟩
      show 2 ≤ 100000
      decide
    · rintro d ⟨ds, rfl, ws, ⟨h1, h3, h4⟩, rfl⟩
      exact ⟨ws, h1, h3, h4, rfl⟩
  · rintro d ⟨ws, h1, h3, h4, rfl⟩
    exact ⟨⟨some (u, ws), ⟨hu, h1, h3, fun x hx => others_in (h4 x hx)⟩, rfl⟩, 0, n + 12, rfl, by omega⟩
end
end K10

namespace K10
open PySem PySem.Spec PyProof.Rows L2 DL
theorem cut_init {α : Type} (xs : List α) (x : α) : DL.cutD (xs ++ [x]) none (some (-1)) = xs := by
  unfold DL.cutD HT.sIx
  simp
  rw [show (-1 + ((xs.length : Int) + 1)).toNat = xs.length from by omega, List.take_left]
theorem depth_nats : ∀ ms : List Nat, PyData.depthAll (nats ms) = 0
  | [] => rfl
  | m :: ms => by
    show max 0 (PyData.depthAll (nats ms)) = 0
    rw [depth_nats ms]
    rfl
theorem canLay_nats : ∀ ms : List Nat, PyData.canLayAll0 (nats ms) = true
  | [] => rfl
  | m :: ms => by
    simp only [nats, List.map_cons, PyData.canLayAll0, Bool.and_eq_true]
    exact ⟨rfl, canLay_nats ms⟩
theorem encR_lay (r : Round) : (encR r).canLay0 = true ∧ (encR r).depth ≤ 2 := by
  cases r with
  | none => exact ⟨rfl, by decide⟩
  | some q =>
    obtain ⟨u, ms⟩ := q
    constructor
    · show (PyData.tuple [.int (u : Nat), .tuple (nats ms)]).canLay0 = true
      simp only [PyData.canLay0, PyData.canLayAll0, canLay_nats, Bool.and_self]
    · show (PyData.tuple [.int (u : Nat), .tuple (nats ms)]).depth ≤ 2
      simp only [PyData.depth, PyData.depthAll, depth_nats]
      decide
theorem encS_lay : ∀ rs : List Round, PyData.canLayAll0 (rs.map encR) = true ∧ PyData.depthAll (rs.map encR) ≤ 2
  | [] => ⟨rfl, by decide⟩
  | r :: rs => by
    obtain ⟨a, b⟩ := encS_lay rs
    obtain ⟨c, d⟩ := encR_lay r
    constructor
    · simp only [List.map_cons, PyData.canLayAll0, Bool.and_eq_true]
      exact ⟨c, a⟩
    · simp only [List.map_cons, PyData.depthAll]
      omega
theorem shaped_S (rs : List Round) : SeqAt.shaped (encS rs) = true := by
  obtain ⟨a, b⟩ := encS_lay rs
  show ((PyData.tuple (rs.map encR)).canLay0 && decide ((PyData.tuple (rs.map encR)).depth ≤ 64)) = true
  rw [show (PyData.tuple (rs.map encR)).canLay0 = true from by simp only [PyData.canLay0, a], Bool.true_and]
  refine decide_eq_true ?_
  show PyData.depthAll (rs.map encR) + 1 ≤ 64
  omega
def sMisses : FS where
  α := Round × Nat × Nat
  enc a := [.dat (encR a.1), .dat (.int (a.2.1 : Nat)), .dat (.int (a.2.2 : Nat))]
  ok _ _ := True
  res a r := r = .dat (.bool (!hearsM a.1 a.2.1 a.2.2))
section
variable {P : Program} {w : World} {K : PySem.W.Frag} {mg : Str → Option Value} {base : Heap} {k : Nat}
abbrev stMisses : Stmt := topS 9
abbrev nMisses : List Str := ["_law_told", "_law_spot", "_law_other"]
theorem scMisses : FnScope nMisses nMisses (defScope stMisses) := ⟨rfl, rfl, rfl, by decide +kernel, rfl, by decide +kernel, by decide +kernel⟩
theorem ok_misses {f : Addr} {fd : FuncData} (F : Fun K "_law_misses" "_law_misses" stMisses f fd) : FnG P w K mg base (k + 1) f fd nMisses (spG K sMisses) := by
  refine okJ F scMisses (fun _ _ _ => rfl) (fun _ a m h => by simp [sMisses] at h) fun cdv Ar fr sh Hh C ⟨r, wk, ot⟩ n FM _ _ => ?_
  refine js_one (j1_ret1 (d := .bool (!hearsM r wk ot)) ?_ ⟨rfl, trivial⟩)
  cases r with
  | none => exact XD.is (j_andB (q := true) (j_cmp FM (j_name 0) j_non (.notN .none)) fun z => nomatch (show false = true from z)) rfl
  | some q =>
    obtain ⟨u, ms⟩ := q
    refine XD.is (j_andB (q := u == ot && ms.contains wk) (j_cmp FM (j_name 0) j_non (.notN _)) fun _ => ?_) ?_
    · refine XD.is (j_andB (q := ms.contains wk) (j_cmp FM (j_ix FM (j_name 0) j_int (.tup _ _ (.int u) rfl)) (j_name 2) (.eq rfl rfl)) fun _ => j_one (XD.is (j_cmp FM (j_name 1) (j_ix FM (j_name 0) j_int (.tup _ _ (encN ms) rfl)) (.inT rfl (shaped_N ms))) ?_)) ?_
      · rw [any_N]
      · rw [show PyData.eqv (.int (u : Nat)) (.int (ot : Nat)) = (u == ot) from beqN u ot]
    · show PyData.bool (true && (u == ot && ms.contains wk)) = .bool (!(!(u == ot) || !ms.contains wk))
      generalize (u == ot) = x
      generalize ms.contains wk = y
      cases x <;> cases y <;> rfl
def sLView (n : Nat) : FS where
  α := List PyData × List Round × Nat
  enc a := [.dat (.tuple a.1), .dat (encS a.2.1), .dat (.int (a.2.2 : Nat))]
  ok _ a := a.1.length ≤ 1000 ∧ a.2.2 < a.1.length ∧ a.2.1.length ≤ n
  res a r := ∃ d, (viewsL a.1 a.2.1)[a.2.2]? = some d ∧ r = .dat d
abbrev stLView : Stmt := topS 10
abbrev nLView : List Str := ["_law_words_in", "_law_rounds", "_law_spot", "_law_found", "_law_other"]
theorem scLView : FnScope nLView ["_law_words_in", "_law_rounds", "_law_spot"] (defScope stLView) := ⟨rfl, rfl, rfl, by decide +kernel, rfl, by decide +kernel, by decide +kernel⟩
theorem ok_lview {f fH : Addr} {fd fdH : FuncData} (F : Fun K "_law_view" "_law_view" stLView f fd) (DV : Df K mg "_law_view" f fd ["_law_words_in", "_law_rounds", "_law_spot"]) (DH : Df K mg "_law_misses" fH fdH nMisses) (GH : FnG P w K mg base k fH fdH nMisses (spG K sMisses)) (mR : mg "range" = none) (mL : mg "len" = none) (mT : mg "tuple" = none) :
    ∀ m : Nat, FnG P w K mg base (k + m + 1) f fd ["_law_words_in", "_law_rounds", "_law_spot"] (spG K (sLView m)) := by
  intro m
  induction m with
  | zero =>
    refine okJ F scLView (fun _ _ _ => rfl) (fun _ a m h => by simp [sLView] at h) fun cdv Ar fr sh Hh C ⟨ins, rs, wk⟩ n FM ⟨ho, hw, hr⟩ _ => ?_
    obtain rfl : rs = [] := List.length_eq_zero_iff.mp (Nat.le_zero.mp hr)
    refine js_cons (M := fun _ => False) (j1_if1 (p := true) (XT.imp (jt_cmp FM (j_name 1) (j_tup (ds := []) ja_nil) (.eq (shaped_S []) rfl)) (fun _ e => e)) (fun _ => js_one (j1_ret1 (j_ix FM (j_name 0) (j_name 2) (.tup _ _ ins[wk] (atI_nat (List.getElem?_eq_getElem hw)))) ⟨⟨_, List.getElem?_eq_getElem hw, rfl⟩, trivial⟩)) (fun z => nomatch z)) (fun _ z => z.elim)
  | succ m ih =>
    refine okJ F scLView (fun _ _ _ => rfl) (fun _ a m h => by simp [sLView] at h) fun cdv Ar fr sh Hh C ⟨ins, rs, wk⟩ n FM ⟨ho, hw, hr⟩ _ => ?_
    have ho : ins.length ≤ 1000 := ho
    have hw : wk < ins.length := hw
    have hr : rs.length ≤ m + 1 := hr
    rcases List.eq_nil_or_concat rs with rfl | ⟨init, last, rfl⟩
    · refine js_cons (M := fun _ => False) (j1_if1 (p := true) (XT.imp (jt_cmp FM (j_name 1) (j_tup (ds := []) ja_nil) (.eq (shaped_S []) rfl)) (fun _ e => e)) (fun _ => js_one (j1_ret1 (j_ix FM (j_name 0) (j_name 2) (.tup _ _ ins[wk] (atI_nat (List.getElem?_eq_getElem hw)))) ⟨⟨_, List.getElem?_eq_getElem hw, rfl⟩, trivial⟩)) (fun z => nomatch z)) (fun _ z => z.elim)
    · rw [List.concat_eq_append] at hr ⊢
      have em : (init ++ [last]).map encR = init.map encR ++ [encR last] := by rw [List.map_append]; rfl
      have ev : viewsL ins (init ++ [last]) = stepL (viewsL ins init) last := by
        unfold viewsL
        rw [List.foldl_append]
        rfl
      have vl : (viewsL ins init).length = ins.length := viewsL_len init ins
      have hi : init.length ≤ m := by
        have : (init ++ [last]).length ≤ m + 1 := hr
        rw [List.length_append] at this
        simpa using this
      generalize hvs : viewsL ins init = vs at ev vl
      refine js_cons (M := (· = [.dat (.tuple ins), .dat (encS (init ++ [last])), .dat (.int (wk : Nat)), .unk, .unk])) (j1_if1 (p := false) (XT.imp (jt_cmp FM (j_name 1) (j_tup (ds := []) ja_nil) (.eq (shaped_S (init ++ [last])) rfl)) (fun b e => ?_)) (fun z => nomatch z) (fun _ => js_nil)) ?_
      · rw [e]
        show PyData.eqvAll ((init ++ [last]).map encR) [] = false
        rw [em]
        cases init.map encR <;> rfl
      rintro Γ rfl
      refine js_cons (M := (· = [.dat (.tuple ins), .dat (encS (init ++ [last])), .dat (.int (wk : Nat)), .own [], .unk])) (j1_setO 3 FM (PO := (· = [])) (jo_lst (ds := []) ja_nil) (fun d e => by rw [e]; rfl)) ?_
      rintro Γ rfl
      refine js_cons (M := fun Γ => ∃ u, Γ = [.dat (.tuple ins), .dat (encS (init ++ [last])), .dat (.int (wk : Nat)), .own (heardL vs last wk), u]) (j1_for (js := [4]) (fun _ i Γ => ∃ u, Γ = [.dat (.tuple ins), .dat (encS (init ++ [last])), .dat (.int (wk : Nat)), .own ((heardL vs last wk).take i), u]) FM
        (ji_rng1 FM mR (n := (ins.length : Nat)) (j_len FM mL (j_name 0) (.tup _)) ⟨by omega, by omega⟩) (fun ds e => ⟨.unk, rfl⟩) (fun ds i d Γ1 e hd ⟨u, e1⟩ => ?_) (fun ds Γ e h => ?_)) ?_
      · subst e e1
        obtain ⟨hi1, rfl⟩ := rng_get hd
        have hi1 : i < ins.length := hi1
        rw [Int.zero_add]
        have hlen : (heardL vs last wk).length = ins.length := by unfold heardL; rw [List.length_mapIdx, vl]
        have hiv : i < vs.length := by omega
        have hat : (heardL vs last wk)[i]? = some (if hearsM last wk i then vs[i] else .none) := by
          unfold heardL
          rw [List.getElem?_mapIdx, List.getElem?_eq_getElem hiv]
          rfl
        have nxt : (heardL vs last wk).take (i + 1) = (heardL vs last wk).take i ++ [if hearsM last wk i then vs[i] else .none] := by
          rw [List.take_add_one, hat]
          rfl
        have tl : ((heardL vs last wk).take i).length < 1000000 := by
          rw [List.length_take]
          omega
        have ix1 : ∀ {Γ : List Ent}, IxD (encS (init ++ [last])) (.int (-1)) (encR last) := fun {Γ} => by
          unfold encS
          rw [em]
          exact .tup _ _ _ (atI_last _ _)
        refine ⟨_, jg_name 4 FM, js_one (j1_if1 (p := !hearsM last wk i) (jt_val1 (j_call1 (last, wk, i) FM DH GH (ja_cons (j_ix FM (j_name 1) (j_neg j_int) (ix1 (Γ := []))) (ja_cons (j_name 2) (ja_one (j_name 4)))) ⟨rfl, fun m => by simp [sMisses], trivial⟩ (fun _ e => ⟨_, e, rfl⟩))) (fun z => ?_) (fun z => ?_))⟩
        · have z : hearsM last wk i = false := by simpa using z
          rw [z] at nxt
          refine js_one (j1_append 3 FM (PP := (· = .none)) j_non tl (fun d e => ?_))
          subst e
          exact ⟨_, by rw [nxt]; rfl⟩
        · have z : hearsM last wk i = true := by simpa using z
          rw [z] at nxt
          refine js_one (j1_append 3 FM (PP := (· = vs[i])) ?_ tl (fun d e => ?_))
          · refine j_call1 (S := sLView m) (ins, init, i) FM DV ih (ja_cons (j_name 0) (ja_cons (j_slice FM (j_name 1) jp_none (jp_some (j_neg j_int)) (d := encS init) ?_) (ja_one (j_name 4)))) ⟨rfl, fun m => by simp [sLView], ho, hi1, hi⟩ (fun r ⟨d, h1, h2⟩ => ⟨d, h2, ?_⟩)
            · have z := SlD.tup ((init ++ [last]).map encR) none (some (-1))
              rw [em, cut_init] at z
              unfold encS
              rw [em]
              exact z
            · have h1 : (viewsL ins init)[i]? = some d := h1
              rw [hvs, List.getElem?_eq_getElem hiv] at h1
              exact (Option.some.inj h1).symm
          · subst e
            exact ⟨_, by rw [nxt]; rfl⟩
      · subst e
        obtain ⟨u, rfl⟩ := h
        refine ⟨u, ?_⟩
        rw [List.take_of_length_le]
        unfold heardL rng
        rw [List.length_mapIdx, List.length_map, List.length_range, vl]
        exact Nat.le_refl _
      rintro Γ ⟨u, rfl⟩
      refine xs_freeze 3 ?_
      refine js_one (j1_ret1 (j_tuple FM mT (j_name 3) (.list _)) ⟨⟨.tuple (heardL vs last wk), ?_, rfl⟩, trivial⟩)
      show (viewsL ins (init ++ [last]))[wk]? = _
      rw [ev]
      unfold stepL
      have hwv : wk < vs.length := by
        have : wk < ins.length := hw
        omega
      rw [List.getElem?_map, List.getElem?_range hwv]
      rfl
end
end K10

namespace K10
open PySem PySem.Spec PyProof.Rows L2 DL
mutual
def hasM (wd : Str) : PyData → Bool
  | .tuple ds => hasAny wd ds
  | d => PyData.eqv d (.str wd)
def hasAny (wd : Str) : List PyData → Bool
  | [] => false
  | d :: ds => hasM wd d || hasAny wd ds
end
theorem hasAny_any (wd : Str) : ∀ ds : List PyData, hasAny wd ds = ds.any (hasM wd)
  | [] => rfl
  | d :: ds => by
    rw [List.any_cons, ← hasAny_any wd ds]
    rfl
theorem any_filter (p : PyData → Bool) : ∀ ds : List PyData, ds.any p = decide (0 < (ds.filter p).length)
  | [] => rfl
  | d :: ds => by
    rw [List.any_cons, any_filter p ds, List.filter_cons]
    cases p d
    · rfl
    · simp
/-- an input, or None -/
def Leaf (d : PyData) : Prop := d = .none ∨ ∃ x, d = .str x
/-- a view of some depth -/
def VW : Nat → PyData → Prop
  | 0, d => Leaf d
  | n + 1, d => Leaf d ∨ ∃ ds, d = .tuple ds ∧ ds.length ≤ 1000 ∧ ∀ e, e ∈ ds → VW n e
theorem VW.up {n : Nat} {d : PyData} (h : VW n d) : VW (n + 1) d := by
  induction n generalizing d with
  | zero => exact .inl h
  | succ n ih =>
    rcases h with h | ⟨ds, e, l, h⟩
    · exact .inl h
    · exact .inr ⟨ds, e, l, fun x hx => ih (h x hx)⟩
def sHas (n : Nat) : FS where
  α := PyData × Str
  enc a := [.dat a.1, .dat (.str a.2)]
  ok _ a := VW n a.1
  res a r := r = .dat (.bool (hasM a.2 a.1))
section
variable {P : Program} {w : World} {K : PySem.W.Frag} {mg : Str → Option Value} {base : Heap} {k : Nat}
abbrev stHas : Stmt := topS 11
abbrev nHas : List Str := ["_law_it", "_law_word", "_law_part"]
theorem scHas : FnScope nHas ["_law_it", "_law_word"] (defScope stHas) := ⟨rfl, rfl, rfl, by decide +kernel, rfl, by decide +kernel, by decide +kernel⟩
theorem has_leaf {f : Addr} {cdv : Value} {Ar : Around} {fr : List Env} {sh : Shared} {Hh : Hp} {C : DL.Ctx} {d : PyData} {wd : Str} {n : Nat} (FM : Fam (famOf P w K mg base nHas "_law_has" stHas f cdv Ar fr sh Hh) P w K mg base k) (mI : mg "isinstance" = none) (mT : mg "tuple" = none) (h : Leaf d) {T : FS} {a : T.α} (hT : T.κ = none) (hr : ∀ r, r = .dat (.bool (hasM wd d)) → T.res a r) :
    JS (famOf P w K mg base nHas "_law_has" stHas f cdv Ar fr sh Hh) K C (defBody stHas) [.dat d, .dat (.str wd), .unk] (fun Γ => T.res a (.dat .none) ∧ EndD T.κ n Γ) (fun r Γ => T.res a r ∧ EndD T.κ n Γ) (fun _ => False) (fun _ => False) := by
  have en : ∀ Γ, EndD T.κ n Γ := fun Γ => by rw [hT]; trivial
  rcases h with rfl | ⟨x, rfl⟩
  · refine js_cons (M := fun _ => False) (j1_if1 (p := true) (XT.imp (jt_not (jt_val1 (j_isi (T := "tuple") (d := .none) false FM mI mT (j_name 0) (by decide +kernel)))) (fun _ e => e)) (fun _ => js_one (j1_ret1 (j_cmp FM (j_name 0) (j_name 1) (.eqNS _)) ⟨hr _ rfl, en _⟩)) (fun z => nomatch z)) (fun _ z => z.elim)
  · refine js_cons (M := fun _ => False) (j1_if1 (p := true) (XT.imp (jt_not (jt_val1 (j_isi (T := "tuple") (d := .str x) false FM mI mT (j_name 0) (show kitB "str" "tuple" = some false by decide +kernel)))) (fun _ e => e)) (fun _ => js_one (j1_ret1 (j_cmp FM (j_name 0) (j_name 1) (.eqS _ _)) ⟨hr _ rfl, en _⟩)) (fun z => nomatch z)) (fun _ z => z.elim)
theorem shaped_ones (n : Nat) : SeqAt.shaped (.list (List.replicate n (PyData.int 1))) = true := by
  have := shaped_ints (List.replicate n 1)
  rw [List.map_replicate] at this
  exact this
theorem ok_has {f : Addr} {fd : FuncData} (F : Fun K "_law_has" "_law_has" stHas f fd) (DV : Df K mg "_law_has" f fd ["_law_it", "_law_word"]) (mI : mg "isinstance" = none) (mT : mg "tuple" = none) :
    ∀ m : Nat, FnG P w K mg base (k + m + 1) f fd ["_law_it", "_law_word"] (spG K (sHas m)) := by
  intro m
  induction m with
  | zero => exact okJ F scHas (fun _ _ _ => rfl) (fun _ a m h => by simp [sHas] at h) fun cdv Ar fr sh Hh C ⟨d, wd⟩ n FM ho _ => has_leaf FM mI mT ho rfl fun r e => e
  | succ m ih =>
    refine okJ F scHas (fun _ _ _ => rfl) (fun _ a m h => by simp [sHas] at h) fun cdv Ar fr sh Hh C ⟨d, wd⟩ n FM ho _ => ?_
    rcases ho with ho | ⟨ds, e, hl, he⟩
    · exact has_leaf FM mI mT ho rfl fun r e => e
    · have e : d = .tuple ds := e
      subst e
      refine js_cons (M := (· = [.dat (.tuple ds), .dat (.str wd), .unk])) (j1_if1 (p := false) (XT.imp (jt_not (jt_val1 (j_isi (T := "tuple") (d := .tuple ds) true FM mI mT (j_name 0) (show kitB "tuple" "tuple" = some true by decide +kernel)))) (fun _ e => e)) (fun z => nomatch z) (fun _ => js_nil)) ?_
      rintro Γ rfl
      have hl : ds.length ≤ 1000 := hl
      have key : (ds.filter (hasM wd)).map (fun _ => PyData.int 1) = List.replicate (ds.filter (hasM wd)).length (.int 1) := by rw [List.map_const']
      refine js_one (j1_ret1 (d := .bool (hasM wd (.tuple ds))) (XD.is (j_cmp FM (x := .list (List.replicate (ds.filter (hasM wd)).length (.int 1))) (XD.is (j_frz1 (jo_lc1 [("_law_part", 2)] (js := [2]) (hasM wd) (fun _ => .int 1) FM (ji_seq FM (j_name 0) (.tup _)) (fun _ => blkOk_by (show blkC nHas (defScope stHas) _ [("_law_part", 2)] = true by decide +kernel)) (by intro v hv; simp at hv; subst hv; rfl) (by intro j hj; simpa using hj) (by omega) ?_)) (by rw [key])) (j_frz1 (jo_lst (ds := []) ja_nil)) (.ne (shaped_ones _) rfl)) ?_) ⟨rfl, trivial⟩)
      · intro d hd
        exact ⟨_, jg_name 2 (FM.blk _), jts_one (jt_val1 (j_call1 (S := sHas m) (d, wd) (FM.blk _) DV ih (ja_cons (j_name 2) (ja_one (j_name 1))) ⟨rfl, fun m => by simp [sHas], he d hd⟩ (fun _ e => ⟨_, e, rfl⟩))), fun _ => j_int⟩
      · show PyData.bool (!PyData.eqvAll _ []) = .bool (hasAny wd ds)
        rw [hasAny_any, any_filter]
        cases (ds.filter (hasM wd)).length <;> rfl
end
end K10

namespace K10
open PySem PySem.Spec PyProof.Rows L2 DL
/-! ### plain laws of views -/
theorem stepL_get (vs : List PyData) (r : Round) (o : Nat) (h : o < vs.length) : (stepL vs r)[o]? = some (.tuple (heardL vs r o)) := by
  unfold stepL
  rw [List.getElem?_map, List.getElem?_range h]
  rfl
theorem viewsL_snoc (ins : List PyData) (rs : List Round) (r : Round) : viewsL ins (rs ++ [r]) = stepL (viewsL ins rs) r := by
  unfold viewsL
  rw [List.foldl_append]
  rfl
theorem heardL_mem {vs : List PyData} {r : Round} {o : Nat} {d : PyData} (h : d ∈ heardL vs r o) : ∃ i x, vs[i]? = some x ∧ d = if hearsM r o i then x else .none := by
  unfold heardL at h
  obtain ⟨i, hi⟩ := List.mem_iff_getElem?.mp h
  rw [List.getElem?_mapIdx] at hi
  obtain ⟨x, h1, h2⟩ := Option.map_eq_some_iff.mp hi
  exact ⟨i, x, h1, h2.symm⟩
theorem viewsL_VW {ins : List PyData} (hl : ins.length ≤ 1000) (h : ∀ d, d ∈ ins → Leaf d) : ∀ (n : Nat) (rs : List Round), rs.length ≤ n → ∀ d, d ∈ viewsL ins rs → VW n d := by
  intro n
  induction n with
  | zero =>
    intro rs hr d hd
    obtain rfl : rs = [] := List.length_eq_zero_iff.mp (Nat.le_zero.mp hr)
    exact h d hd
  | succ n ih =>
    intro rs hr d hd
    rcases List.eq_nil_or_concat rs with rfl | ⟨init, last, rfl⟩
    · exact .inl (h d hd)
    · rw [List.concat_eq_append] at hr hd
      rw [viewsL_snoc] at hd
      have hi : init.length ≤ n := by
        rw [List.length_append] at hr
        simpa using hr
      unfold stepL at hd
      obtain ⟨o, _, rfl⟩ := List.mem_map.mp hd
      refine .inr ⟨_, rfl, ?_, fun e he => ?_⟩
      · unfold heardL
        rw [List.length_mapIdx, viewsL_len]
        exact hl
      · obtain ⟨i, x, h1, rfl⟩ := heardL_mem he
        split
        · exact ih init hi x (List.mem_of_getElem? h1)
        · cases n with
          | zero => exact .inl rfl
          | succ n => exact .inl (.inl rfl)
theorem others_not (m u : Nat) : (others m u).contains u = false := by
  cases h : (others m u).contains u with
  | false => rfl
  | true => exact absurd rfl (others_in (List.contains_iff_mem.mp h)).2
theorem others_mem {m u o : Nat} (h : o < m) (ne : o ≠ u) : (others m u).contains o = true := by
  refine List.contains_iff_mem.mpr ?_
  unfold others
  rw [List.mem_filter, List.mem_range]
  exact ⟨h, by simpa using ne⟩
theorem hasM_none (wd : Str) : hasM wd .none = false := by simp [hasM, PyData.eqv]
/-- a worker that is unheard by all in all rounds -/
theorem gone_law {ins : List PyData} {wd : Str} {far : Nat} (hf : far < ins.length) (h1 : ∀ o d, o ≠ far → ins[o]? = some d → hasM wd d = false) (h2 : ∀ d, ins[far]? = some d → hasM wd d = true) : ∀ k : Nat,
    (∀ o d, o ≠ far → (viewsL ins (List.replicate k (some (far, others ins.length far))))[o]? = some d → hasM wd d = false) ∧ ∀ d, (viewsL ins (List.replicate k (some (far, others ins.length far))))[far]? = some d → hasM wd d = true := by
  intro k
  induction k with
  | zero => exact ⟨h1, h2⟩
  | succ k ih =>
    obtain ⟨i1, i2⟩ := ih
    rw [List.replicate_succ', viewsL_snoc]
    have vl := viewsL_len (List.replicate k (some (far, others ins.length far))) ins
    generalize viewsL ins (List.replicate k (some (far, others ins.length far))) = vs at i1 i2 vl ⊢
    have lt : ∀ {o d}, (stepL vs (some (far, others ins.length far)))[o]? = some d → o < vs.length := fun {o d} h => by
      have := (List.getElem?_eq_some_iff.mp h).1
      rwa [stepL_len] at this
    refine ⟨fun o d ne h => ?_, fun d h => ?_⟩
    · have ho := lt h
      rw [stepL_get vs _ o ho] at h
      cases h
      show hasAny wd _ = false
      rw [hasAny_any]
      refine List.any_eq_false.mpr fun x hx => ?_
      obtain ⟨i, y, g1, rfl⟩ := heardL_mem hx
      by_cases e : i = far
      · subst e
        have hm : hearsM (some (i, others ins.length i)) o i = false := by
          show (i != i || !(others ins.length i).contains o) = false
          rw [others_mem (by omega) ne]
          simp
        rw [hm, if_neg (by decide), hasM_none]
        decide
      · split
        · rw [i1 i y e g1]
          decide
        · rw [hasM_none]
          decide
    · have ho := lt h
      rw [stepL_get vs _ far ho] at h
      cases h
      show hasAny wd _ = true
      rw [hasAny_any]
      refine List.any_eq_true.mpr ⟨vs[far], ?_, i2 _ (List.getElem?_eq_getElem ho)⟩
      refine List.mem_iff_getElem?.mpr ⟨far, ?_⟩
      unfold heardL
      rw [List.getElem?_mapIdx, List.getElem?_eq_getElem ho]
      have hm : hearsM (some (far, others ins.length far)) far far = true := by
        show (far != far || !(others ins.length far).contains far) = true
        rw [others_not]
        simp
      show some (if hearsM (some (far, others ins.length far)) far far then vs[far] else .none) = _
      rw [hm]
      rfl
/-! ### nothing of who is unheard -/
abbrev txts (ws : List Str) : List PyData := ws.map .str
def aloneW (ws : List Str) (far : Nat) : List PyData := txts (ws.take far) ++ [.str "alone"] ++ txts (ws.drop (far + 1))
theorem alone_get {ws : List Str} {far : Nat} (hf : far < ws.length) (hw : ∀ x, x ∈ ws → x ≠ "alone") : (aloneW ws far).length = ws.length ∧ (∀ o d, o ≠ far → (aloneW ws far)[o]? = some d → hasM "alone" d = false) ∧ ∀ d, (aloneW ws far)[far]? = some d → hasM "alone" d = true := by
  have lt : (txts (ws.take far)).length = far := by
    rw [List.length_map, List.length_take]
    omega
  have le : (aloneW ws far).length = ws.length := by
    unfold aloneW
    rw [List.length_append, List.length_append, lt, List.length_map, List.length_drop]
    simp
    omega
  have at0 : (aloneW ws far)[far]? = some (.str "alone") := by
    unfold aloneW
    rw [List.append_assoc, List.getElem?_append_right (by omega), lt, Nat.sub_self]
    rfl
  have neg : ∀ x, x ∈ ws → hasM "alone" (.str x) = false := fun x hx => by
    have : (x == ("alone" : Str)) = false := beq_eq_false_iff_ne.mpr (hw x hx)
    simpa [hasM, PyData.eqv] using this
  refine ⟨le, fun o d ne h => ?_, fun d h => ?_⟩
  · have hm : d ∈ txts (ws.take far) ∨ d ∈ txts (ws.drop (far + 1)) := by
      unfold aloneW at h
      rw [List.append_assoc] at h
      by_cases c : o < far
      · rw [List.getElem?_append_left (by omega)] at h
        exact .inl (List.mem_of_getElem? h)
      · rw [List.getElem?_append_right (by omega), lt] at h
        have e : o - far = (o - far - 1) + 1 := by omega
        rw [e] at h
        exact .inr (List.mem_of_getElem? (by simpa using h))
    rcases hm with hm | hm
    · obtain ⟨x, hx, rfl⟩ := List.mem_map.mp hm
      exact neg x (List.mem_of_mem_take hx)
    · obtain ⟨x, hx, rfl⟩ := List.mem_map.mp hm
      exact neg x (List.mem_of_mem_drop hx)
  · rw [at0] at h
    cases h
    simp [hasM, PyData.eqv]
theorem cut_take {α : Type} (xs : List α) (n : Nat) (h : n ≤ xs.length) : DL.cutD xs none (some (n : Int)) = xs.take n := by
  unfold DL.cutD
  rw [HT.sIx_none, HT.sIx_nat]
  simp
theorem cut_drop {α : Type} (xs : List α) (n : Nat) (h : n ≤ xs.length) : DL.cutD xs (some (n : Int)) none = xs.drop n := by
  unfold DL.cutD
  rw [HT.sIx_none, HT.sIx_nat, Nat.min_eq_left h]
  refine List.take_of_length_le ?_
  rw [List.length_drop]
  exact Nat.le_refl _
def sApart : FS where
  α := List Str × List Round × Nat
  enc a := [.dat (.tuple (txts a.1)), .dat (encS a.2.1), .dat (.int (a.2.2 : Nat))]
  ok _ a := a.1.length ≤ 9 ∧ a.2.2 < a.1.length ∧ a.2.1.length ≤ 4 ∧ ∀ x, x ∈ a.1 → x ≠ "alone"
  res a r := r = .dat (.bool true)
section
variable {P : Program} {w : World} {K : PySem.W.Frag} {mg : Str → Option Value} {base : Heap} {k : Nat}
abbrev stApart : Stmt := topS 12
abbrev nApart : List Str := ["_law_words_in", "_law_rounds", "_law_far", "_law_others", "_law_spot", "_law_gone", "_law_words"]
abbrev pApart : List Str := ["_law_words_in", "_law_rounds", "_law_far"]
theorem scApart : FnScope nApart pApart (defScope stApart) := ⟨rfl, rfl, rfl, by decide +kernel, rfl, by decide +kernel, by decide +kernel⟩
theorem ok_apart {f fV fH : Addr} {fd fdV fdH : FuncData} (F : Fun K "_law_apart_right" "_law_apart_right" stApart f fd) (DV : Df K mg "view" fV fdV ["inputs", "schedule", "worker"]) (GV : FnG P w K mg base k fV fdV ["inputs", "schedule", "worker"] (spG K sView))
    (DH : Df K mg "_law_has" fH fdH ["_law_it", "_law_word"]) (GH : FnG P w K mg base k fH fdH ["_law_it", "_law_word"] (spG K (sHas 4))) (mR : mg "range" = none) (mT : mg "tuple" = none) (mL : mg "len" = none) : FnG P w K mg base (k + 1) f fd pApart (spG K sApart) := by
  refine okJ F scApart (fun _ _ _ => rfl) (fun _ a m h => by simp [sApart] at h) fun cdv Ar fr sh Hh C ⟨ws, rs, far⟩ n FM ⟨h9, hf, h4, hw⟩ _ => ?_
  have h9 : ws.length ≤ 9 := h9
  have hf : far < ws.length := hf
  have h4 : rs.length ≤ 4 := h4
  obtain ⟨al, a1, a2⟩ := alone_get hf hw
  have sl : (txts ws).length = ws.length := List.length_map ..
  let Γ0 : Ent → Ent → Ent → List Ent := fun a b c => [.dat (.tuple (txts ws)), .dat (encS rs), .dat (.int (far : Nat)), a, .unk, b, c]
  refine js_cons (M := (· = Γ0 (.dat (.list (nats (others ws.length far)))) .unk .unk)) (j1_setLc 3 [("_law_spot", 4)] FM (js := [4]) (T := fun d b => b = neTo far d) (E := fun d e => e = id d) (PL := (· = rng 0 ws.length))
    (XI.imp (ji_rng1 FM mR (j_len FM mL (j_name 0) (.tup _)) ⟨by rw [sl]; omega, by rw [sl]; omega⟩) ?_) (fun _ => blkOk_by (show blkC nApart (defScope stApart) _ [("_law_spot", 4)] = true by decide +kernel)) (by intro v hv; simp at hv; subst hv; rfl) (by intro j hj; simpa using hj) ?_ ?_ ?_) ?_
  · rintro ds rfl
    rw [sl]
    rfl
  · rintro ds rfl
    simp only [rng, List.length_map, List.length_range]
    omega
  · rintro ds d rfl hd
    obtain ⟨o, hd⟩ := List.mem_iff_getElem?.mp hd
    obtain ⟨_, rfl⟩ := rng_get hd
    exact ⟨_, jg_name 4 (FM.blk _), jts_one (jt_cmp (FM.blk _) (j_name 4) (j_name 2) (.ne rfl rfl)), fun _ => j_name 4⟩
  · rintro ds es rfl lr
    rw [lr.det, others_lc]
    rfl
  rintro Γ rfl
  have rl : (rs.map encR).length = rs.length := List.length_map ..
  have ge : PyData.tuple (List.replicate ((rs.map encR).length : Int).toNat [PyData.tuple [.int (far : Nat), .tuple (nats (others ws.length far))]]).flatten = encS (List.replicate rs.length (some (far, others ws.length far))) := by
    rw [Int.toNat_natCast, rl]
    unfold encS
    rw [List.map_replicate]
    congr 1
    generalize rs.length = n
    induction n with
    | zero => rfl
    | succ n ih =>
      rw [List.replicate_succ, List.replicate_succ, List.flatten_cons, ih]
      rfl
  refine js_cons (M := (· = Γ0 (.dat (.list (nats (others ws.length far)))) (.dat (encS (List.replicate rs.length (some (far, others ws.length far))))) .unk)) (j1_set 5 FM (PP := (· = encS (List.replicate rs.length (some (far, others ws.length far)))))
    (XD.is (j_times FM (j_tup (ja_one (j_tup (ja_cons (j_name 2) (ja_one (j_tuple FM mT (j_name 3) (.list _))))))) (j_len FM mL (j_name 1) (.tup _)) (by omega) (by omega) (by show 1 ≤ 1000; decide)) ge) (fun d e => by rw [e]; rfl)) ?_
  rintro Γ rfl
  have we : PyData.tuple (DL.cutD (txts ws) none (some (far : Int)) ++ [.str "alone"] ++ DL.cutD (txts ws) (some ((far : Int) + 1)) none) = .tuple (aloneW ws far) := by
    have c : ((far : Int) + 1) = ((far + 1 : Nat) : Int) := by omega
    rw [c, cut_take _ _ (by omega), cut_drop _ _ (by omega)]
    unfold aloneW txts
    rw [List.map_take, List.map_drop]
  have tl : (DL.cutD (txts ws) none (some (far : Int))).length ≤ 9 := by
    rw [cut_take _ _ (by omega), List.length_take]
    omega
  have dl : (DL.cutD (txts ws) (some ((far : Int) + 1)) none).length ≤ 9 := by
    have c : ((far : Int) + 1) = ((far + 1 : Nat) : Int) := by omega
    rw [c, cut_drop _ _ (by omega), List.length_drop]
    omega
  have big : 100 ≤ sizeLine := by decide
  refine js_cons (M := (· = Γ0 (.dat (.list (nats (others ws.length far)))) (.dat (encS (List.replicate rs.length (some (far, others ws.length far))))) (.dat (.tuple (aloneW ws far))))) (j1_set 6 FM (PP := (· = .tuple (aloneW ws far)))
    (XD.is (j_bin FM (j_bin FM (j_slice FM (j_name 0) jp_none (jp_some (j_name 2)) (.tup _ _ _)) (j_tup (ja_one j_str)) (.addT _ _ (by simp only [List.length_cons, List.length_nil]; omega))) (j_slice FM (j_name 0) (jp_some (j_bin FM (j_name 2) j_int (.addI _ _))) jp_none (.tup _ _ _)) (.addT _ _ (by rw [List.length_append]; simp only [List.length_cons, List.length_nil]; omega))) we) (fun d e => by rw [e]; rfl)) ?_
  rintro Γ rfl
  have leaf : ∀ d, d ∈ aloneW ws far → Leaf d := fun d hd => by
    unfold aloneW at hd
    rcases List.mem_append.mp hd with hd | hd
    · rcases List.mem_append.mp hd with hd | hd
      · obtain ⟨x, _, rfl⟩ := List.mem_map.mp hd
        exact .inr ⟨x, rfl⟩
      · rw [List.mem_singleton] at hd
        exact .inr ⟨_, hd⟩
    · obtain ⟨x, _, rfl⟩ := List.mem_map.mp hd
      exact .inr ⟨x, rfl⟩
  have vw : ∀ o d, (viewsL (aloneW ws far) (List.replicate rs.length (some (far, others ws.length far))))[o]? = some d → VW 4 d := fun o d h =>
    viewsL_VW (by omega) leaf 4 _ (by rw [List.length_replicate]; exact h4) d (List.mem_of_getElem? h)
  obtain ⟨g1, g2⟩ := gone_law (wd := "alone") (far := far) (ins := aloneW ws far) (by omega) a1 a2 rs.length
  rw [al] at g1 g2
  refine js_cons (M := (· = Γ0 (.dat (.list (nats (others ws.length far)))) (.dat (encS (List.replicate rs.length (some (far, others ws.length far))))) (.dat (.tuple (aloneW ws far))))) (j1_if1 (p := false) (XT.imp (jt_cmp FM (x := .list []) (XD.is (j_frz1 (jo_lc1 [("_law_spot", 4)] (js := [4]) (fun _ => false) id FM (ji_seq FM (j_name 3) (.list _)) (fun _ => blkOk_by (show blkC nApart (defScope stApart) _ [("_law_spot", 4)] = true by decide +kernel)) (by intro v hv; simp at hv; subst hv; rfl) (by intro j hj; simpa using hj) ?_ ?_)) ?_) (j_frz1 (jo_lst (ds := []) ja_nil)) (.ne rfl rfl)) (fun _ e => e)) (fun z => nomatch z) (fun _ => js_nil)) ?_
  · rw [List.length_map]
    have := others_len ws.length far
    omega
  · intro d hd
    obtain ⟨o, ho, rfl⟩ := List.mem_map.mp hd
    obtain ⟨h1, h2⟩ := others_in ho
    refine ⟨_, jg_name 4 (FM.blk _), jts_one (jt_val (B := (· = false)) ?_), fun z => nomatch z⟩
    refine j_call (S := sHas 4) (PR := fun rs' => ∃ x, (viewsL (aloneW ws far) (List.replicate rs.length (some (far, others ws.length far))))[o]? = some x ∧ rs' = [.dat x, .dat (.str "alone")]) (FM.blk _) DH GH (ja_consP (Pb := fun _ rs' => rs' = [.dat (.str "alone")]) (j_call1 (S := sView) (aloneW ws far, List.replicate rs.length (some (far, others ws.length far)), o) (FM.blk _) DV GV (ja_cons (j_name 6) (ja_cons (j_name 5) (ja_one (j_name 4)))) ⟨rfl, fun m => by simp [sView], by show (aloneW ws far).length ≤ 1000; omega, by show o < (aloneW ws far).length; omega⟩ (fun r h => h.elim fun d h => ⟨d, h.2, h.1⟩)) (fun x _ => ja_one j_str) ?_) ?_
    · rintro x rs' hx rfl
      exact ⟨x, hx, rfl⟩
    · rintro rs' ⟨x, hx, rfl⟩
      exact ⟨(x, "alone"), rfl, ⟨rfl, fun m => by simp [sHas], vw o x hx⟩, fun r e => ⟨_, e, _, rfl, g1 o x h2 hx⟩⟩
  · simp
  rintro Γ rfl
  refine js_one (j1_ret1 (d := .bool true) ?_ ⟨rfl, trivial⟩)
  refine j_call (S := sHas 4) (PR := fun rs' => ∃ x, (viewsL (aloneW ws far) (List.replicate rs.length (some (far, others ws.length far))))[far]? = some x ∧ rs' = [.dat x, .dat (.str "alone")]) FM DH GH (ja_consP (Pb := fun _ rs' => rs' = [.dat (.str "alone")]) (j_call1 (S := sView) (aloneW ws far, List.replicate rs.length (some (far, others ws.length far)), far) FM DV GV (ja_cons (j_name 6) (ja_cons (j_name 5) (ja_one (j_name 2)))) ⟨rfl, fun m => by simp [sView], by show (aloneW ws far).length ≤ 1000; omega, by show far < (aloneW ws far).length; omega⟩ (fun r h => h.elim fun d h => ⟨d, h.2, h.1⟩)) (fun x _ => ja_one j_str) ?_) ?_
  · rintro x rs' hx rfl
    exact ⟨x, hx, rfl⟩
  · rintro rs' ⟨x, hx, rfl⟩
    refine ⟨(x, "alone"), rfl, ⟨rfl, fun m => by simp [sHas], vw far x hx⟩, fun r e => ⟨_, e, ?_⟩⟩
    show PyData.bool (hasM "alone" x) = .bool true
    rw [g2 x hx]
end
end K10

namespace K10
open PySem PySem.Spec PyProof.Rows L2 DL
/-! ### sizes -/
def Vb : Nat → Nat
  | 0 => 12
  | n + 1 => 9 * Vb n + 21
abbrev WL : List PyData := [.str "a", .str "b", .str "0", .str "zzzzzzzz", .str "(a,b)"]
theorem sm_word {d : PyData} (h : d ∈ WL) : Sm 0 12 d := by
  simp only [WL, List.mem_cons, List.not_mem_nil, or_false] at h
  rcases h with rfl | rfl | rfl | rfl | rfl <;> exact ⟨by decide +kernel, by decide +kernel, by decide +kernel, by decide +kernel⟩
theorem word_str {d : PyData} (h : d ∈ WL) : ∃ x : Str, d = .str x ∧ x ≠ "alone" := by
  simp only [WL, List.mem_cons, List.not_mem_nil, or_false] at h
  rcases h with rfl | rfl | rfl | rfl | rfl <;> exact ⟨_, rfl, by decide +kernel⟩
theorem sm_nat {m : Nat} (h : m < 1000) : Sm 0 13 (.int (m : Nat)) := by
  refine ⟨rfl, ?_, Nat.le_refl _, PyData.shown_int_le (by omega)⟩
  simp only [PyData.showable, decide_eq_true_eq]
  exact Nat.lt_of_le_of_lt (Nat.log2_le_self _) (by omega)
theorem sm_views {ins : List PyData} (hl : ins.length ≤ 9) (h : ∀ d, d ∈ ins → Sm 0 12 d) : ∀ (n : Nat) (rs : List Round), rs.length ≤ n → ∀ d, d ∈ viewsL ins rs → Sm n (Vb n) d := by
  intro n
  induction n with
  | zero =>
    intro rs hr d hd
    obtain rfl : rs = [] := List.length_eq_zero_iff.mp (Nat.le_zero.mp hr)
    exact h d hd
  | succ n ih =>
    intro rs hr d hd
    have vb : Vb n ≤ Vb (n + 1) := by show Vb n ≤ 9 * Vb n + 21; omega
    have v0 : ∀ m, 12 ≤ Vb m := fun m => by
      cases m with
      | zero => exact Nat.le_refl _
      | succ m => show 12 ≤ 9 * Vb m + 21; omega
    rcases List.eq_nil_or_concat rs with rfl | ⟨init, last, rfl⟩
    · exact (h d hd).mono (by omega) (v0 _)
    · rw [List.concat_eq_append] at hr hd
      rw [viewsL_snoc] at hd
      have hi : init.length ≤ n := by
        rw [List.length_append] at hr
        simpa using hr
      unfold stepL at hd
      obtain ⟨o, _, rfl⟩ := List.mem_map.mp hd
      have l9 : (heardL (viewsL ins init) last o).length ≤ 9 := by
        unfold heardL
        rw [List.length_mapIdx, viewsL_len]
        exact hl
      refine (sm_tup (n := n) (L := Vb n) fun e he => ?_).mono (Nat.le_refl _) ?_
      · obtain ⟨i, x, h1, rfl⟩ := heardL_mem he
        split
        · exact ih init hi x (List.mem_of_getElem? h1)
        · exact sm_non.mono (Nat.zero_le _) (Nat.le_trans (by decide) (v0 n))
      · show (heardL (viewsL ins init) last o).length * Vb n + 2 * (heardL (viewsL ins init) last o).length + 3 ≤ 9 * Vb n + 21
        have := Nat.mul_le_mul_right (Vb n) l9
        omega
theorem sm_round {m : Nat} (hm : m ≤ 9) {q : Round} (h : WfR m q) : Sm 2 300 (encR q) := by
  cases q with
  | none => exact sm_non.mono (by decide) (by decide)
  | some q =>
    obtain ⟨u, ms⟩ := q
    obtain ⟨h1, h2, h3, h4⟩ := h
    have a : Sm 1 138 (.tuple (nats ms)) := (sm_tup (n := 0) (L := 13) fun e he => by
      obtain ⟨x, hx, rfl⟩ := List.mem_map.mp he
      exact sm_nat (by have := (h4 x hx).1; omega)).mono (Nat.le_refl _) (by
        have e : (nats ms).length = ms.length := List.length_map ..
        rw [e]
        omega)
    refine (sm_tup (n := 1) (L := 138) (ds := [.int (u : Nat), .tuple (nats ms)]) fun e he => ?_).mono (Nat.le_refl _) (by show 2 * 138 + 2 * 2 + 3 ≤ 300; decide)
    simp only [List.mem_cons, List.not_mem_nil, or_false] at he
    rcases he with rfl | rfl
    · exact (sm_nat (by omega)).mono (by decide) (by decide)
    · exact a
theorem sm_S {m : Nat} (hm : m ≤ 9) {rs : List Round} (hl : rs.length ≤ 4) (h : ∀ q, q ∈ rs → WfR m q) : Sm 3 1300 (encS rs) := by
  refine (sm_tup (n := 2) (L := 300) fun e he => ?_).mono (Nat.le_refl _) ?_
  · obtain ⟨q, hq, rfl⟩ := List.mem_map.mp he
    exact sm_round hm (h q hq)
  · rw [List.length_map]
    omega
theorem sm_W {ins : List PyData} (hl : ins.length ≤ 9) (h : ∀ d, d ∈ ins → d ∈ WL) : Sm 1 200 (.tuple ins) := (sm_tup (n := 0) (L := 12) fun e he => sm_word (h e he)).mono (Nat.le_refl _) (by omega)
/-! ### who misses nobody -/
def hearsAll (r : Round) (s : Nat) : Bool := match r with
  | none => true
  | some (_, ms) => !ms.contains s
theorem heard_all {r : Round} {s : Nat} (h : hearsAll r s = true) (vs : List PyData) : heardL vs r s = vs := by
  unfold heardL
  apply List.ext_getElem?
  intro i
  rw [List.getElem?_mapIdx]
  have : hearsM r s i = true := by
    cases r with
    | none => rfl
    | some q =>
      obtain ⟨u, ms⟩ := q
      show (u != i || !ms.contains s) = true
      have h : (!ms.contains s) = true := h
      rw [h, Bool.or_true]
  rw [this]
  cases vs[i]? <;> rfl
def allTo (r : Round) : PyData → Bool
  | .int i => hearsAll r i.toNat
  | _ => false
theorem whole_lc (m : Nat) (r : Round) : ((rng 0 m).filter (allTo r)).map id = nats ((List.range m).filter (hearsAll r)) := by
  rw [List.map_id]
  unfold rng nats
  rw [List.filter_map]
  have e : List.filter (allTo r ∘ fun i : Nat => PyData.int (0 + (i : Nat))) (List.range m) = (List.range m).filter (hearsAll r) := by
    refine List.filter_congr fun i _ => ?_
    show hearsAll r (0 + (i : Int)).toNat = hearsAll r i
    rw [Int.zero_add]
    rfl
  rw [e]
  refine List.map_congr_left fun i _ => ?_
  rw [Int.zero_add]
theorem whole_ne {m : Nat} {r : Round} (h : WfR m r) (hm : 2 ≤ m) : (List.range m).filter (hearsAll r) ≠ [] := fun e => by
  have : ∃ u, u < m ∧ hearsAll r u = true := by
    cases r with
    | none => exact ⟨0, by omega, rfl⟩
    | some q =>
      obtain ⟨u, ms⟩ := q
      obtain ⟨h1, _, _, h4⟩ := h
      refine ⟨u, h1, ?_⟩
      show (!ms.contains u) = true
      cases c : ms.contains u with
      | false => rfl
      | true => exact absurd rfl (h4 u (List.contains_iff_mem.mp c)).2
  obtain ⟨u, h1, h2⟩ := this
  have hu : u ∈ (List.range m).filter (hearsAll r) := by
    rw [List.mem_filter, List.mem_range]
    exact ⟨h1, h2⟩
  rw [e] at hu
  cases hu
/-- the d-th of some -/
def atD (vs : List PyData) : PyData → PyData
  | .int i => vs.getD i.toNat .none
  | _ => .none
theorem atD_lc (vs : List PyData) (m : Nat) (h : vs.length = m) : ((rng 0 m).filter fun _ => true).map (atD vs) = vs := by
  rw [List.filter_eq_self.mpr (fun _ _ => rfl)]
  unfold rng
  rw [List.map_map]
  apply List.ext_getElem?
  intro i
  rw [List.getElem?_map]
  by_cases c : i < m
  · rw [List.getElem?_range c]
    show some (vs.getD (0 + (i : Int)).toNat .none) = _
    rw [Int.zero_add, Int.toNat_natCast, List.getD_eq_getElem?_getD, List.getElem?_eq_getElem (by omega)]
    rfl
  · rw [List.getElem?_eq_none (by rw [List.length_range]; omega), List.getElem?_eq_none (by omega)]
    rfl
theorem lcr_all {Q : PyData → Prop} : ∀ {ds es : List PyData}, LcR (fun _ b => b = true) (fun _ e => Q e) ds es → es.length = ds.length ∧ ∀ e, e ∈ es → Q e
  | _, _, .nil => ⟨rfl, fun _ h => nomatch h⟩
  | _, _, .skip a _ => nomatch a
  | _, _, .keep _ c b => by
    obtain ⟨h1, h2⟩ := lcr_all b
    refine ⟨by rw [List.length_cons, List.length_cons, h1], fun e he => ?_⟩
    rcases List.mem_cons.mp he with rfl | he
    · exact c
    · exact h2 e he
theorem map_of {α : Type} {f : α → PyData} {Q : α → Prop} : ∀ {es : List PyData}, (∀ e, e ∈ es → ∃ q, Q q ∧ e = f q) → ∃ qs : List α, es = qs.map f ∧ ∀ q, q ∈ qs → Q q
  | [], _ => ⟨[], rfl, fun _ h => nomatch h⟩
  | e :: es, h => by
    obtain ⟨qs, rfl, hq⟩ := map_of (es := es) fun x hx => h x (List.mem_cons_of_mem _ hx)
    obtain ⟨q, h1, rfl⟩ := h e (List.mem_cons_self ..)
    exact ⟨q :: qs, rfl, fun x hx => by
      rcases List.mem_cons.mp hx with rfl | hx
      · exact h1
      · exact hq x hx⟩
end K10

namespace K10
open PySem PySem.Spec PyProof.Rows L2 DL
def sRight : FS where
  α := Unit
  enc _ := [.dck 0]
  ok C _ := IsDeck C
  res _ r := r = .dat (.bool true)
  κ := some 100
/-- three keywords, back to front -/
def back3 {α : Type} : List α → List α → List α
  | [], [a, b, c] => [c, b, a]
  | _, _ => []
theorem back3_paired {α β : Type} {R : α → β → Prop} : ∀ {vs : List α} {rs : List β}, Paired R vs rs → Paired R (back3 [] vs) (back3 [] rs)
  | _, _, .nil => .nil
  | _, _, .cons _ .nil => .nil
  | _, _, .cons _ (.cons _ .nil) => .nil
  | _, _, .cons a (.cons b (.cons c .nil)) => .cons c (.cons b (.cons a .nil))
  | _, _, .cons _ (.cons _ (.cons _ (.cons _ _))) => .nil
section
variable {P : Program} {w : World} {K : PySem.W.Frag} {mg : Str → Option Value} {base : Heap} {k : Nat}
abbrev stRight : Stmt := topS 13
abbrev nRight : List Str := ["_law_deck_here", "_law_many", "_law_size", "_law_words_in", "_law_k", "_law_rounds", "_law_kept", "_law_due", "_law_spot", "_law_one", "_law_whole"]
theorem scRight : FnScope nRight ["_law_deck_here"] (defScope stRight) := ⟨rfl, rfl, rfl, by decide +kernel, rfl, by decide +kernel, by decide +kernel⟩
abbrev pView : List Str := ["inputs", "schedule", "worker"]
abbrev pLV : List Str := ["_law_words_in", "_law_rounds", "_law_spot"]
theorem ok_right {f fD fP fR fL fV fA : Addr} {fd fdD fdP fdR fdL fdV fdA : FuncData} (F : Fun K "_law_right" "_law_right" stRight f fd) (DD : Df K mg "_law_draw" fD fdD ["_law_deck_here", "_law_many"]) (GD : FnG P w K mg base k fD fdD ["_law_deck_here", "_law_many"] (spG K sDraw)) (DP : Df K mg "_law_pick" fP fdP nPick) (GP : FnG P w K mg base k fP fdP nPick (spG K sPick))
    (DR : Df K mg "_law_round" fR fdR ["_law_deck_here", "_law_many"]) (GR : FnG P w K mg base k fR fdR ["_law_deck_here", "_law_many"] (spG K sRound)) (DL' : Df K mg "_law_view" fL fdL pLV) (GL : FnG P w K mg base k fL fdL pLV (spG K (sLView 4))) (DV : Df K mg "view" fV fdV pView) (GV : FnG P w K mg base k fV fdV pView (spG K sView))
    (bdV : KBinds K fdV pView ["worker", "schedule", "inputs"] back3 back3) (DA : Df K mg "_law_apart_right" fA fdA pApart) (GA : FnG P w K mg base k fA fdA pApart (spG K sApart)) (mR : mg "range" = none) (mT : mg "tuple" = none) (mL : mg "len" = none) (mS : mg "set" = none) (mRp : mg "repr" = none) : FnG P w K mg base (k + 1) f fd ["_law_deck_here"] (spG K sRight) := by
  refine okJ F scRight (fun _ _ _ => rfl) (fun e => nomatch e) fun cdv Ar fr sh Hh C _ n FM hC hb => ?_
  have hb : n + 100 ≤ cap := hb
  have hC : IsDeck C := hC
  -- many
  refine js_cons (M := fun Γ => ∃ m : Nat, 2 ≤ m ∧ m ≤ 9 ∧ Γ = [.dck (n + 1), .dat (.int (m : Nat)), .unk, .unk, .unk, .unk, .unk, .unk, .unk, .unk, .unk]) (j1k_set 1 (κ := 1) FM (j_pick 0 (n := n) (ds := [.int 3, .int 3, .int 4, .int 5, .int 2, .int 6, .int 8, .int 9]) FM DP GP hC (by omega) (j_lst (ja_cons j_int (ja_cons j_int (ja_cons j_int (ja_cons j_int (ja_cons j_int (ja_cons j_int (ja_cons j_int (ja_one j_int))))))))) (fun z => nomatch z) (by decide)) (fun d hd => ?_)) ?_
  · simp only [List.mem_cons, List.not_mem_nil, or_false] at hd
    rcases hd with rfl | rfl | rfl | rfl | rfl | rfl | rfl | rfl
    · exact ⟨3, by decide, by decide, rfl⟩
    · exact ⟨3, by decide, by decide, rfl⟩
    · exact ⟨4, by decide, by decide, rfl⟩
    · exact ⟨5, by decide, by decide, rfl⟩
    · exact ⟨2, by decide, by decide, rfl⟩
    · exact ⟨6, by decide, by decide, rfl⟩
    · exact ⟨8, by decide, by decide, rfl⟩
    · exact ⟨9, by decide, by decide, rfl⟩
  rintro Γ ⟨m, m2, m9, rfl⟩
  -- size
  refine js_cons (M := fun Γ => ∃ z : Nat, z ≤ 4 ∧ Γ = [.dck (n + 2), .dat (.int (m : Nat)), .dat (.int (z : Nat)), .unk, .unk, .unk, .unk, .unk, .unk, .unk, .unk]) (j1k_set 2 (κ := 1) FM (j_draw 0 (n := n + 1) FM DD GD hC (by omega) j_int (by decide) (by decide)) (fun d hd => ?_)) ?_
  · obtain ⟨i, rfl, i0, i1⟩ := hd
    exact ⟨i.toNat, by omega, by rw [Int.toNat_of_nonneg i0]; rfl⟩
  rintro Γ ⟨z, z4, rfl⟩
  -- inputs
  refine js_cons (M := fun Γ => ∃ ins : List PyData, ins.length = m ∧ (∀ d, d ∈ ins → d ∈ WL) ∧ Γ = [.dck (n + 11), .dat (.int (m : Nat)), .dat (.int (z : Nat)), .dat (.tuple ins), .unk, .unk, .unk, .unk, .unk, .unk, .unk]) (j1k_set 3 (κ := 0 + 9 * (0 + 1)) FM (jk_tupleP (PL := fun es => es.length = m ∧ ∀ d, d ∈ es → d ∈ WL) FM mT (j_frz (jok_lc [("_law_k", 4)] (js := [4]) (κ0 := 0) (κt := 0) (κe := 1) (L := 9) (T := fun _ b => b = true) (E := fun _ e => e ∈ WL) (PL := (· = rng 0 m)) FM (ji_rng1 FM mR (n := (m : Nat)) (j_name 1) ⟨by omega, by omega⟩) (fun _ => blkOk_by (show blkC nRight (defScope stRight) _ [("_law_k", 4)] = true by decide +kernel)) (by intro v hv; simp at hv; subst hv; rfl) (by intro j hj; simpa using hj) ?_ ?_ ?_ ?_))) (fun d hd => ?_)) ?_
  · rintro ds rfl
    simp only [rng, List.length_map, List.length_range]
    omega
  · rintro ds rfl
    simp only [rng, List.length_map, List.length_range]
    omega
  · rintro ds d c rfl hd hc
    refine ⟨_, jg_name 4 (FM.blk _), jts_nil, fun _ => ?_⟩
    exact j_pick 0 (n := n + 2 + c + 0) (ds := WL) (FM.blk _) DP GP hC (by omega) (j_lst (ja_cons j_str (ja_cons j_str (ja_cons j_str (ja_cons j_str (ja_one j_str)))))) (fun z => nomatch z) (by decide)
  · rintro ds es rfl lr
    obtain ⟨h1, h2⟩ := lcr_all lr
    refine ⟨?_, h2⟩
    rw [h1]
    simp only [rng, List.length_map, List.length_range]
  · obtain ⟨es, rfl, h1, h2⟩ := hd
    exact ⟨es, h1, h2, rfl⟩
  rintro Γ ⟨ins, il, iw, rfl⟩
  -- rounds
  refine js_cons (M := fun Γ => ∃ rs : List Round, rs.length ≤ 4 ∧ (∀ q, q ∈ rs → WfR m q) ∧ Γ = [.dck (n + 91), .dat (.int (m : Nat)), .dat (.int (z : Nat)), .dat (.tuple ins), .unk, .dat (encS rs), .unk, .unk, .unk, .unk, .unk]) (j1k_set 5 (κ := 0 + 4 * (0 + 20)) FM (jk_tupleP (PL := fun es => ∃ rs : List Round, es = rs.map encR ∧ rs.length ≤ 4 ∧ ∀ q, q ∈ rs → WfR m q) FM mT (j_frz (jok_lc [("_law_k", 4)] (js := [4]) (κ0 := 0) (κt := 0) (κe := 20) (L := 4) (T := fun _ b => b = true) (E := fun _ e => ∃ q, WfR m q ∧ e = encR q) (PL := (· = rng 0 z)) FM (ji_rng1 FM mR (n := (z : Nat)) (j_name 2) ⟨by omega, by omega⟩) (fun _ => blkOk_by (show blkC nRight (defScope stRight) _ [("_law_k", 4)] = true by decide +kernel)) (by intro v hv; simp at hv; subst hv; rfl) (by intro j hj; simpa using hj) ?_ ?_ ?_ ?_))) (fun d hd => ?_)) ?_
  · rintro ds rfl
    simp only [rng, List.length_map, List.length_range]
    omega
  · rintro ds rfl
    simp only [rng, List.length_map, List.length_range]
    omega
  · rintro ds d c rfl hd hc
    refine ⟨_, jg_name 4 (FM.blk _), jts_nil, fun _ => ?_⟩
    exact j_callI (κ := 0) (κ' := 20) (S := sRound) (i := 0) (n0 := n + 11 + c + 0) (FM.blk _) DR GR rfl (ja_dck 0 (ja_one (j_name 1))) (fun rs e => ⟨m, e, ⟨hC, m2, m9⟩, fun r ⟨q, h1, h2⟩ => ⟨_, h2, q, h1, rfl⟩⟩) rfl (by omega)
  · rintro ds es rfl lr
    obtain ⟨h1, h2⟩ := lcr_all lr
    obtain ⟨rs, rfl, h3⟩ := map_of h2
    refine ⟨rs, rfl, ?_, h3⟩
    rw [List.length_map] at h1
    rw [h1]
    simp only [rng, List.length_map, List.length_range]
    exact z4
  · obtain ⟨es, rfl, rs, rfl, h1, h2⟩ := hd
    exact ⟨rs, h1, h2, rfl⟩
  rintro Γ ⟨rs, rl, rw', rfl⟩
  have i9 : ins.length ≤ 9 := by omega
  have sw : ∀ d, d ∈ ins → Sm 0 12 d := fun d hd => sm_word (iw d hd)
  have shK : Shows (.tuple [.tuple ins, encS rs]) := by
    refine (sm_tup (n := 3) (L := 1300) fun e he => ?_).shows (by decide) (by show 2 * 1300 + 2 * 2 + 3 ≤ sizeLine; decide)
    simp only [List.mem_cons, List.not_mem_nil, or_false] at he
    rcases he with rfl | rfl
    · exact (sm_W i9 iw).mono (by decide) (by decide)
    · exact sm_S m9 rl rw'
  have vl : (viewsL ins rs).length = m := by rw [viewsL_len]; exact il
  have sv : ∀ d, d ∈ viewsL ins rs → Sm 4 100000 d := fun d hd => (sm_views i9 sw 4 rs rl d hd).mono (Nat.le_refl _) (by decide)
  have shV : Shows (.list (viewsL ins rs)) := (sm_lst sv).shows (by decide) (by
    rw [vl]
    exact Nat.le_trans (Nat.add_le_add_right (Nat.add_le_add (Nat.mul_le_mul_right 100000 m9) (Nat.mul_le_mul_left 2 m9)) 3) (by decide))
  have shE : ∀ d, d ∈ viewsL ins rs → Shows d := fun d hd => (sv d hd).shows (by decide) (by decide)
  -- kept
  generalize hkd : (PyData.tuple [.tuple ins, encS rs]).shown = kd
  refine js_cons1 (Γ1 := [.dck (n + 91), .dat (.int (m : Nat)), .dat (.int (z : Nat)), .dat (.tuple ins), .unk, .dat (encS rs), .dat (.str kd), .unk, .unk, .unk, .unk]) (j1_set1 6 FM (XD.is (j_repr FM mRp (j_tup (ja_cons (j_name 3) (ja_one (j_name 5)))) shK) (by rw [hkd]))) ?_
  -- due
  refine js_cons1 (Γ1 := [.dck (n + 91), .dat (.int (m : Nat)), .dat (.int (z : Nat)), .dat (.tuple ins), .unk, .dat (encS rs), .dat (.str kd), .dat (.list (viewsL ins rs)), .unk, .unk, .unk]) (j1_setLc 7 [("_law_spot", 8)] FM (js := [8]) (T := fun _ b => b = true) (E := fun d e => e = atD (viewsL ins rs) d) (PL := (· = rng 0 m)) (ji_rng1 FM mR (n := (m : Nat)) (j_name 1) ⟨by omega, by omega⟩) (fun _ => blkOk_by (show blkC nRight (defScope stRight) _ [("_law_spot", 8)] = true by decide +kernel)) (by intro v hv; simp at hv; subst hv; rfl) (by intro j hj; simpa using hj) ?_ ?_ ?_) ?_
  · rintro ds rfl
    simp only [rng, List.length_map, List.length_range]
    omega
  · rintro ds d rfl hd
    obtain ⟨o, hd⟩ := List.mem_iff_getElem?.mp hd
    obtain ⟨ho, rfl⟩ := rng_get hd
    rw [Int.zero_add]
    refine ⟨_, jg_name 8 (FM.blk _), jts_nil, fun _ => ?_⟩
    refine j_call1 (S := sLView 4) (ins, rs, o) (FM.blk _) DL' GL (ja_cons (j_name 3) (ja_cons (j_name 5) (ja_one (j_name 8)))) ⟨rfl, fun m => by simp [sLView], by show ins.length ≤ 1000; omega, by show o < ins.length; omega, rl⟩ (fun r h => h.elim fun d h => ⟨d, h.2, ?_⟩)
    show d = (viewsL ins rs).getD ((o : Nat) : Int).toNat .none
    rw [Int.toNat_natCast, List.getD_eq_getElem?_getD, h.1]
    rfl
  · rintro ds es rfl lr
    rw [lr.det, atD_lc _ m vl]
    rfl
  -- the program's views
  have vget : ∀ {o : Nat}, o < m → ∃ d, (viewsL ins rs)[o]? = some d ∧ d ∈ viewsL ins rs := fun {o} ho => ⟨(viewsL ins rs)[o]'(by omega), List.getElem?_eq_getElem _, List.getElem_mem _⟩
  refine js_cons1 (Γ1 := [.dck (n + 91), .dat (.int (m : Nat)), .dat (.int (z : Nat)), .dat (.tuple ins), .unk, .dat (encS rs), .dat (.str kd), .dat (.list (viewsL ins rs)), .unk, .unk, .unk]) (j1_if1 (p := false) (XT.imp (jt_cmp FM (j_repr FM mRp (XD.is (j_frz1 (jo_lc1 [("_law_spot", 8)] (js := [8]) (fun _ => true) (atD (viewsL ins rs)) FM (ji_rng1 FM mR (n := (m : Nat)) (j_name 1) ⟨by omega, by omega⟩) (fun _ => blkOk_by (show blkC nRight (defScope stRight) _ [("_law_spot", 8)] = true by decide +kernel)) (by intro v hv; simp at hv; subst hv; rfl) (by intro j hj; simpa using hj) ?_ ?_)) ?_) shV) (j_repr FM mRp (j_name 7) shV) (.neS _ _)) (fun b e => by rw [e]; simp)) (fun z => nomatch z) (fun _ => js_nil)) ?_
  · simp only [rng, List.length_map, List.length_range]
    omega
  · intro d hd
    obtain ⟨o, hd⟩ := List.mem_iff_getElem?.mp hd
    obtain ⟨ho, rfl⟩ := rng_get hd
    rw [Int.zero_add]
    refine ⟨_, jg_name 8 (FM.blk _), jts_nil, fun _ => ?_⟩
    refine j_call1 (S := sView) (ins, rs, o) (FM.blk _) DV GV (ja_cons (j_name 3) (ja_cons (j_name 5) (ja_one (j_name 8)))) ⟨rfl, fun m => by simp [sView], by show ins.length ≤ 1000; omega, by show o < ins.length; omega⟩ (fun r h => h.elim fun d h => ⟨d, h.2, ?_⟩)
    show d = (viewsL ins rs).getD ((o : Nat) : Int).toNat .none
    rw [Int.toNat_natCast, List.getD_eq_getElem?_getD, h.1]
    rfl
  · rw [Int.toNat_natCast, atD_lc _ m vl]
  -- one
  refine js_cons (M := fun Γ => ∃ o : Nat, o < m ∧ Γ = [.dck (n + 92), .dat (.int (m : Nat)), .dat (.int (z : Nat)), .dat (.tuple ins), .unk, .dat (encS rs), .dat (.str kd), .dat (.list (viewsL ins rs)), .unk, .dat (.int (o : Nat)), .unk]) (j1k_set 9 (κ := 1) FM (j_draw 0 (n := n + 91) FM DD GD hC (by omega) (j_name 1) (m := (m : Nat)) (by omega) (by omega)) (fun d hd => ?_)) ?_
  · obtain ⟨i, rfl, i0, i1⟩ := hd
    exact ⟨i.toNat, by omega, by rw [Int.toNat_of_nonneg i0]; rfl⟩
  rintro Γ ⟨o, om, rfl⟩
  obtain ⟨d1, hd1, md1⟩ := vget om
  -- by name
  refine js_cons1 (Γ1 := [.dck (n + 92), .dat (.int (m : Nat)), .dat (.int (z : Nat)), .dat (.tuple ins), .unk, .dat (encS rs), .dat (.str kd), .dat (.list (viewsL ins rs)), .unk, .dat (.int (o : Nat)), .unk]) (j1_if1 (p := false) (jt_w (XT.imp (jw_or (p := false) (q := false) (XT.imp (jt_cmp FM (j_repr FM mRp (d := d1) (j_callK (S := sView) (ins, rs, o) (rs := [.dat (.int (o : Nat)), .dat (encS rs), .dat (.tuple ins)]) (back3 []) FM DV GV bdV (fun R vs rs h => back3_paired h) (jk_cons (j_name 9) (jk_cons (j_name 5) (jk_cons (j_name 3) jk_nil))) rfl ⟨rfl, fun m => by simp [sView], by show ins.length ≤ 1000; omega, by show o < ins.length; omega⟩ (fun r h => h.elim fun d h => ⟨d, h.2, Option.some.inj (h.1.symm.trans hd1)⟩)) (shE d1 md1)) (j_repr FM mRp (j_ix FM (j_name 7) (j_name 9) (.list _ _ d1 (atI_nat hd1))) (shE d1 md1)) (.neS _ _)) (fun b e => by rw [e]; simp))
    (fun _ => jw_or1 (XT.imp (jt_cmp FM (j_repr FM mRp (j_tup (ja_cons (j_name 3) (ja_one (j_name 5)))) shK) (j_name 6) (.neS _ _)) (fun b e => by rw [e, hkd]; simp)))) (fun b e => e))) (fun z => nomatch z) (fun _ => js_nil)) ?_
  -- who misses nobody
  refine js_cons (M := fun Γ => ∃ u, Γ = [.dck (n + 92), .dat (.int (m : Nat)), .dat (.int (z : Nat)), .dat (.tuple ins), .unk, .dat (encS rs), .dat (.str kd), .dat (.list (viewsL ins rs)), .unk, .dat (.int (o : Nat)), u]) ?_ ?_
  · rcases List.eq_nil_or_concat rs with h0 | ⟨init, last, h0⟩
    · subst h0
      exact j1_if1 (p := false) (XT.imp (jt_cmp FM (j_name 5) (j_tup (ds := []) ja_nil) (.ne (shaped_S []) rfl)) (fun b e => e)) (fun z => nomatch z) (fun _ => js_nilP ⟨.unk, rfl⟩)
    · rw [List.concat_eq_append] at h0
      subst h0
      have wfl : WfR m last := rw' last (List.mem_append_right _ (List.mem_singleton.mpr rfl))
      have em : (init ++ [last]).map encR = init.map encR ++ [encR last] := by rw [List.map_append]; rfl
      have ixl : IxD (encS (init ++ [last])) (.int (-1)) (encR last) := by
        unfold encS
        rw [em]
        exact .tup _ _ _ (atI_last _ _)
      have vsl : (viewsL ins init).length = m := by rw [viewsL_len]; exact il
      have same : ∀ {o : Nat}, o < m → hearsAll last o = true → (viewsL ins (init ++ [last]))[o]? = some (.tuple (viewsL ins init)) := fun {o} ho h => by
        rw [viewsL_snoc, stepL_get _ _ _ (by omega), heard_all h]
      have nel : PyData.eqvAll ((init ++ [last]).map encR) [] = false := by
        rw [em]
        cases init.map encR <;> rfl
      generalize hwh : (List.range m).filter (hearsAll last) = wh
      have wne : wh ≠ [] := by
        rw [← hwh]
        exact whole_ne wfl m2
      have win : ∀ x, x ∈ wh → x < m ∧ hearsAll last x = true := fun x hx => by
        rw [← hwh, List.mem_filter, List.mem_range] at hx
        exact hx
      have wlen : wh.length ≤ 9 := by
        have := List.length_filter_le (hearsAll last) (List.range m)
        rw [List.length_range, hwh] at this
        omega
      have shX : Shows (.tuple (viewsL ins init)) := by
        obtain ⟨x, xs, rfl⟩ := List.exists_cons_of_ne_nil wne
        obtain ⟨h1, h2⟩ := win x (List.mem_cons_self ..)
        exact shE _ (List.mem_of_getElem? (same h1 h2))
      refine j1_if1 (p := true) (XT.imp (jt_cmp FM (j_name 5) (j_tup (ds := []) ja_nil) (.ne (shaped_S _) rfl)) (fun b e => ?_)) (fun _ => ?_) (fun z => nomatch z)
      · rw [e]
        show (!PyData.eqvAll ((init ++ [last]).map encR) []) = true
        rw [nel]
        rfl
      · refine js_cons1 (Γ1 := [.dck (n + 92), .dat (.int (m : Nat)), .dat (.int (z : Nat)), .dat (.tuple ins), .unk, .dat (encS (init ++ [last])), .dat (.str kd), .dat (.list (viewsL ins (init ++ [last]))), .unk, .dat (.int (o : Nat)), .dat (.list (nats wh))]) (j1_setLc 10 [("_law_spot", 8)] FM (js := [8]) (T := fun d b => b = allTo last d) (E := fun d e => e = id d) (PL := (· = rng 0 m)) (ji_rng1 FM mR (n := (m : Nat)) (j_name 1) ⟨by omega, by omega⟩) (fun _ => blkOk_by (show blkC nRight (defScope stRight) _ [("_law_spot", 8)] = true by decide +kernel)) (by intro v hv; simp at hv; subst hv; rfl) (by intro j hj; simpa using hj) ?_ ?_ ?_) ?_
        · rintro ds rfl
          simp only [rng, List.length_map, List.length_range]
          omega
        · rintro ds d rfl hd
          obtain ⟨x, hd⟩ := List.mem_iff_getElem?.mp hd
          obtain ⟨hx, rfl⟩ := rng_get hd
          rw [Int.zero_add]
          refine ⟨_, jg_name 8 (FM.blk _), ?_, fun _ => j_name 8⟩
          cases last with
          | none => exact jts_one (jt_w (XT.imp (jw_or (p := true) (q := true) (XT.imp (jt_cmp (FM.blk _) (j_ix (FM.blk _) (j_name 5) (j_neg j_int) ixl) j_non (.isN _)) (fun b e => e)) (fun z => nomatch z)) (fun b e => e)))
          | some q =>
            obtain ⟨v, ms⟩ := q
            refine jts_one (jt_w (XT.imp (jw_or (p := false) (q := !ms.contains x) (XT.imp (jt_cmp (FM.blk _) (j_ix (FM.blk _) (j_name 5) (j_neg j_int) ixl) j_non (.isN _)) (fun b e => e)) (fun _ => jw_or1 (XT.imp (jt_cmp (FM.blk _) (j_name 8) (j_ix (FM.blk _) (j_ix (FM.blk _) (j_name 5) (j_neg j_int) ixl) j_int (.tup _ _ (encN ms) rfl)) (.notInT rfl (shaped_N ms))) (fun b e => ?_)))) (fun b e => e)))
            rw [e, any_N]
        · rintro ds es rfl lr
          rw [lr.det, whole_lc, hwh]
          rfl
        refine js_one (j1_if1 (p := false) (XT.imp (jt_cmp FM (j_lenOne (n := wh.length) (x := (PyData.tuple (viewsL ins init)).shown) FM mL mS (XD.is (j_frz1 (jo_lc1 [("_law_spot", 8)] (js := [8]) (fun _ => true) (fun _ => .str (PyData.tuple (viewsL ins init)).shown) FM (ji_seq FM (j_name 10) (.list _)) (fun _ => blkOk_by (show blkC nRight (defScope stRight) _ [("_law_spot", 8)] = true by decide +kernel)) (by intro v hv; simp at hv; subst hv; rfl) (by intro j hj; simpa using hj) ?_ ?_)) ?_) (by omega)) j_int (.ne rfl rfl)) (fun b e => ?_)) (fun z => nomatch z) (fun _ => js_nilP ⟨_, rfl⟩))
        · rw [List.length_map]
          omega
        · intro d hd
          obtain ⟨x, hx, rfl⟩ := List.mem_map.mp hd
          obtain ⟨h1, h2⟩ := win x hx
          exact ⟨_, jg_name 8 (FM.blk _), jts_nil, fun _ => j_repr (FM.blk _) mRp (d := .tuple (viewsL ins init)) (j_call1 (S := sView) (ins, init ++ [last], x) (FM.blk _) DV GV (ja_cons (j_name 3) (ja_cons (j_name 5) (ja_one (j_name 8)))) ⟨rfl, fun m => by simp [sView], by show ins.length ≤ 1000; omega, by show x < ins.length; omega⟩ (fun r h => h.elim fun d h => ⟨d, h.2, Option.some.inj (h.1.symm.trans (same h1 h2))⟩)) shX⟩
        · rw [List.filter_eq_self.mpr (fun _ _ => rfl), List.map_const', List.length_map]
        · rw [e]
          have h1 : min wh.length 1 = 1 := by
            have := List.length_pos_iff.mpr wne
            omega
          rw [h1]
          rfl
  rintro Γ ⟨u, rfl⟩
  obtain ⟨ws, rfl, hw⟩ := map_of (f := PyData.str) (Q := fun x : Str => x ≠ "alone") fun e he => (word_str (iw e he)).elim fun x h => ⟨x, h.2, h.1⟩
  have wl : ws.length = m := by rw [← il, List.length_map]
  refine js_one (j1_ret1 (d := .bool true) (j_call1 (S := sApart) (ws, rs, o) FM DA GA (ja_cons (j_name 3) (ja_cons (j_name 5) (ja_one (j_name 9)))) ⟨rfl, fun m => by simp [sApart], by show ws.length ≤ 9; omega, by show o < ws.length; omega, rl, hw⟩ (fun r e => ⟨_, e, rfl⟩)) ⟨rfl, 0, n + 92, rfl, by omega⟩)
end
end K10

namespace K10
open PySem PySem.Spec PyProof.Rows L2 DL
def sLaw : FS where
  α := List Int
  enc ns := [.scr ns]
  ok C ns := C = C0 ∧ ns.length ≤ 63
  res _ r := r = .dat (.bool true)
section
variable {P : Program} {w : World} {K : PySem.W.Frag} {mg : Str → Option Value} {base : Heap} {k : Nat}
abbrev stLaw : Stmt := topS 14
abbrev nLaw : List Str := ["_law_script", "_law_deck_here", "_law_turn"]
theorem scLaw : FnScope nLaw ["_law_script"] (defScope stLaw) := ⟨rfl, rfl, rfl, by decide +kernel, rfl, by decide +kernel, by decide +kernel⟩
theorem ok_law {f fD fR : Addr} {fd fdD fdR : FuncData} (F : Fun K "law" "law" stLaw f fd) (DD : Df K mg "_law_deck" fD fdD ["_law_script"]) (GD : FnG P w K mg base k fD fdD ["_law_script"] (spDeck K)) (DR : Df K mg "_law_right" fR fdR ["_law_deck_here"]) (GR : FnG P w K mg base k fR fdR ["_law_deck_here"] (spG K sRight)) (mR : mg "range" = none) : FnG P w K mg base (k + 1) f fd ["_law_script"] (spG K sLaw) := by
  refine okD F scLaw (fun _ _ _ => rfl) (fun _ a m h => by simp [sLaw] at h) (fun cdv Ar fr sh Hh C ns n rm gd h _ => ?_)
  obtain ⟨hC, hl⟩ := h
  subst hC
  have hl : List.length ns ≤ 63 := hl
  have FM : Fam (famOf P w K mg base nLaw "law" stLaw f cdv Ar fr sh Hh) P w K mg base k := ⟨fun _ => rfl, fun _ => rfl, fun _ => rfl, fun _ => rfl, fun _ => rfl, fun _ => rm, fun _ => gd, fun _ => rfl, fun _ => scLaw.nd, fun _ => PassesOwn.never⟩
  refine ⟨tSeq (tAsg (tG (spDeck K) (tCons (tVar 0) tNil)) (gName 1)) (stSs (famOf P w K mg base nLaw "law" stLaw f cdv Ar fr sh Hh) _), pss_cons (ps_set scLaw.nd (i := 1) rfl (Or.inl rfl) (pe_callG GD rm gd rfl DD.mg DD.kp DD.bd (pa_cons (pe_var (i := 0) rfl (Or.inl rfl)) pa_nil rfl) (by decide) rfl rfl) rfl (.inl rfl)) (stSs_ok (𝒳 := famOf P w K mg base nLaw "law" stLaw f cdv Ar fr sh Hh) ()), ?_⟩
  refine xs_deck (i := 1) (j := 0) (ns := ns) rfl hl fun p q => ?_
  have hD : IsDeck (deckC p q) := ⟨p, q, rfl⟩
  refine js_cons (M := fun Γ => True) (j1_for (js := [2]) (fun ds i Γ => ∃ u, Γ = [.scr ns, .dck (100 * i), u]) FM (ji_rng1 FM mR j_int (by decide)) (fun ds e => ⟨.unk, rfl⟩) (fun ds i d Γ1 e hd ⟨u, e1⟩ => ?_) (fun _ _ _ _ => trivial)) (fun Γ _ => js_one (j1_ret1 j_bl ⟨_, rfl, rfl, trivial⟩))
  subst e e1
  obtain ⟨hi, rfl⟩ := rng_get hd
  have hi : i < 6 := hi
  have hcap : 100 * i + 0 + 100 ≤ cap := Nat.le_trans (show 100 * i + 0 + 100 ≤ 1000 by omega) (by decide)
  refine ⟨_, jg_name 2 FM, js_one (j1k_if (κ := 0 + 100) (Bp := fun b => b = false) (jt_notP (jt_val (j_callI (κ := 0) (κ' := 100) (S := sRight) (i := 1) (n0 := 100 * i) FM DR GR rfl (ja_dck 1 ja_nil) (fun rs e => ⟨(), e, hD, fun r e => ⟨_, e, true, rfl, rfl⟩⟩) rfl hcap))) (fun z => nomatch z) (fun _ => js_nilP ⟨_, rfl⟩))⟩
end
/-- what the top has written -/
theorem all_mk {l : PySem.W.OpenLaw} {w : World} {K : PySem.W.Frag} {h : Heap} {mg : Str → Option Value} {fa f1 f2 f3 f4 f5 f6 f7 f8 f9 f10 f11 f12 f13 : Addr} (X : K.In h) (G : h.Ns mainGlobals mg) (hfa : mg "law" = some (.ref fa))
    {od1 an1 od2 an2 od3 an3 od4 an4 od5 an5 od6 an6 od7 an7 od8 an8 od9 an9 od10 an10 od11 an11 od12 an12 od13 an13 : Option Addr} {sl1 sl2 sl3 sl4 sl5 sl6 sl7 sl8 sl9 sl10 sl11 sl12 sl13 : Array (Option Value)}
    {oc1 kV1 dc1 pm1 cd1 ct1 oc2 kV2 dc2 pm2 cd2 ct2 oc3 kV3 dc3 pm3 cd3 ct3 oc4 kV4 dc4 pm4 cd4 ct4 oc5 kV5 dc5 pm5 cd5 ct5 oc6 kV6 dc6 pm6 cd6 ct6 oc7 kV7 dc7 pm7 cd7 ct7 oc8 kV8 dc8 pm8 cd8 ct8 oc9 kV9 dc9 pm9 cd9 ct9 oc10 kV10 dc10 pm10 cd10 ct10 oc11 kV11 dc11 pm11 cd11 ct11 oc12 kV12 dc12 pm12 cd12 ct12 oc13 kV13 dc13 pm13 cd13 ct13 : Value}
    (a1 : PySem.W.nsIn K mainGlobals "hears" = some (some (.ref f1))) (l1 : K.lookup f1 = some ⟨oc1, od1, .func (PySem.W.fnOf "hears" "hears" (defArgs (topS 1)) (defBody (topS 1)) (defScope (topS 1)) .none kV1 dc1 pm1 an1 cd1 ct1), sl1⟩) (c1 : PySem.W.codeIn K cd1 "hears" = true) (k1 : PySem.W.keepIn K (.ref f1) = true)
    (a2 : PySem.W.nsIn K mainGlobals "heard" = some (some (.ref f2))) (l2 : K.lookup f2 = some ⟨oc2, od2, .func (PySem.W.fnOf "heard" "heard" (defArgs (topS 2)) (defBody (topS 2)) (defScope (topS 2)) .none kV2 dc2 pm2 an2 cd2 ct2), sl2⟩) (c2 : PySem.W.codeIn K cd2 "heard" = true) (k2 : PySem.W.keepIn K (.ref f2) = true)
    (a3 : PySem.W.nsIn K mainGlobals "view" = some (some (.ref f3))) (l3 : K.lookup f3 = some ⟨oc3, od3, .func (PySem.W.fnOf "view" "view" (defArgs (topS 3)) (defBody (topS 3)) (defScope (topS 3)) .none kV3 dc3 pm3 an3 cd3 ct3), sl3⟩) (c3 : PySem.W.codeIn K cd3 "view" = true) (k3 : PySem.W.keepIn K (.ref f3) = true)
    (a4 : PySem.W.nsIn K mainGlobals "_law_deck" = some (some (.ref f4))) (l4 : K.lookup f4 = some ⟨oc4, od4, .func (PySem.W.fnOf "_law_deck" "_law_deck" (defArgs (topS 5)) (defBody (topS 5)) (defScope (topS 5)) .none kV4 dc4 pm4 an4 cd4 ct4), sl4⟩) (c4 : PySem.W.codeIn K cd4 "_law_deck" = true) (k4 : PySem.W.keepIn K (.ref f4) = true)
    (a5 : PySem.W.nsIn K mainGlobals "_law_draw" = some (some (.ref f5))) (l5 : K.lookup f5 = some ⟨oc5, od5, .func (PySem.W.fnOf "_law_draw" "_law_draw" (defArgs (topS 6)) (defBody (topS 6)) (defScope (topS 6)) .none kV5 dc5 pm5 an5 cd5 ct5), sl5⟩) (c5 : PySem.W.codeIn K cd5 "_law_draw" = true) (k5 : PySem.W.keepIn K (.ref f5) = true)
    (a6 : PySem.W.nsIn K mainGlobals "_law_pick" = some (some (.ref f6))) (l6 : K.lookup f6 = some ⟨oc6, od6, .func (PySem.W.fnOf "_law_pick" "_law_pick" (defArgs (topS 7)) (defBody (topS 7)) (defScope (topS 7)) .none kV6 dc6 pm6 an6 cd6 ct6), sl6⟩) (c6 : PySem.W.codeIn K cd6 "_law_pick" = true) (k6 : PySem.W.keepIn K (.ref f6) = true)
    (a7 : PySem.W.nsIn K mainGlobals "_law_round" = some (some (.ref f7))) (l7 : K.lookup f7 = some ⟨oc7, od7, .func (PySem.W.fnOf "_law_round" "_law_round" (defArgs (topS 8)) (defBody (topS 8)) (defScope (topS 8)) .none kV7 dc7 pm7 an7 cd7 ct7), sl7⟩) (c7 : PySem.W.codeIn K cd7 "_law_round" = true) (k7 : PySem.W.keepIn K (.ref f7) = true)
    (a8 : PySem.W.nsIn K mainGlobals "_law_misses" = some (some (.ref f8))) (l8 : K.lookup f8 = some ⟨oc8, od8, .func (PySem.W.fnOf "_law_misses" "_law_misses" (defArgs (topS 9)) (defBody (topS 9)) (defScope (topS 9)) .none kV8 dc8 pm8 an8 cd8 ct8), sl8⟩) (c8 : PySem.W.codeIn K cd8 "_law_misses" = true) (k8 : PySem.W.keepIn K (.ref f8) = true)
    (a9 : PySem.W.nsIn K mainGlobals "_law_view" = some (some (.ref f9))) (l9 : K.lookup f9 = some ⟨oc9, od9, .func (PySem.W.fnOf "_law_view" "_law_view" (defArgs (topS 10)) (defBody (topS 10)) (defScope (topS 10)) .none kV9 dc9 pm9 an9 cd9 ct9), sl9⟩) (c9 : PySem.W.codeIn K cd9 "_law_view" = true) (k9 : PySem.W.keepIn K (.ref f9) = true)
    (a10 : PySem.W.nsIn K mainGlobals "_law_has" = some (some (.ref f10))) (l10 : K.lookup f10 = some ⟨oc10, od10, .func (PySem.W.fnOf "_law_has" "_law_has" (defArgs (topS 11)) (defBody (topS 11)) (defScope (topS 11)) .none kV10 dc10 pm10 an10 cd10 ct10), sl10⟩) (c10 : PySem.W.codeIn K cd10 "_law_has" = true) (k10 : PySem.W.keepIn K (.ref f10) = true)
    (a11 : PySem.W.nsIn K mainGlobals "_law_apart_right" = some (some (.ref f11))) (l11 : K.lookup f11 = some ⟨oc11, od11, .func (PySem.W.fnOf "_law_apart_right" "_law_apart_right" (defArgs (topS 12)) (defBody (topS 12)) (defScope (topS 12)) .none kV11 dc11 pm11 an11 cd11 ct11), sl11⟩) (c11 : PySem.W.codeIn K cd11 "_law_apart_right" = true) (k11 : PySem.W.keepIn K (.ref f11) = true)
    (a12 : PySem.W.nsIn K mainGlobals "_law_right" = some (some (.ref f12))) (l12 : K.lookup f12 = some ⟨oc12, od12, .func (PySem.W.fnOf "_law_right" "_law_right" (defArgs (topS 13)) (defBody (topS 13)) (defScope (topS 13)) .none kV12 dc12 pm12 an12 cd12 ct12), sl12⟩) (c12 : PySem.W.codeIn K cd12 "_law_right" = true) (k12 : PySem.W.keepIn K (.ref f12) = true)
    (a13 : PySem.W.nsIn K mainGlobals "law" = some (some (.ref f13))) (l13 : K.lookup f13 = some ⟨oc13, od13, .func (PySem.W.fnOf "law" "law" (defArgs (topS 14)) (defBody (topS 14)) (defScope (topS 14)) .none kV13 dc13 pm13 an13 cd13 ct13), sl13⟩) (c13 : PySem.W.codeIn K cd13 "law" = true) (k13 : PySem.W.keepIn K (.ref f13) = true)
    (z1 : PySem.W.nsIn K mainGlobals "range" = some none) (z2 : PySem.W.nsIn K mainGlobals "tuple" = some none) (z3 : PySem.W.nsIn K mainGlobals "len" = some none) (z4 : PySem.W.nsIn K mainGlobals "set" = some none) (z5 : PySem.W.nsIn K mainGlobals "repr" = some none) (z6 : PySem.W.nsIn K mainGlobals "enumerate" = some none) (z7 : PySem.W.nsIn K mainGlobals "isinstance" = some none) (z8 : PySem.W.nsIn K mainGlobals "int" = some none) (z9 : PySem.W.nsIn K mainGlobals "list" = some none)
    : ∃ fd : FuncData, (∀ (s : Shared) (v : Value), BindsTo s fd ⟨[v], []⟩ [("_law_script", v)]) ∧ ∀ base : Heap, K.In base → base.Ns mainGlobals mg → FnG l.prog w K mg base 8 fa fd ["_law_script"] (spG K sLaw) := by
  have e := hfa.symm.trans (PySem.W.mg_of X G a13)
  cases e
  have F1 := fun_mk (st := topS 1) l1 c1 k1
  have D1 : Df K mg "hears" f1 _ nHears := ⟨PySem.W.mg_of X G a1, k1, F1.binds fun _ _ _ _ _ _ us hl => match us, hl with | [_, _, _], _ => rfl⟩
  have F2 := fun_mk (st := topS 2) l2 c2 k2
  have D2 : Df K mg "heard" f2 _ ["notes", "told", "worker"] := ⟨PySem.W.mg_of X G a2, k2, F2.binds fun _ _ _ _ _ _ us hl => match us, hl with | [_, _, _], _ => rfl⟩
  have F3 := fun_mk (st := topS 3) l3 c3 k3
  have D3 : Df K mg "view" f3 _ pView := ⟨PySem.W.mg_of X G a3, k3, F3.binds fun _ _ _ _ _ _ us hl => match us, hl with | [_, _, _], _ => rfl⟩
  have F4 := fun_mk (st := topS 5) l4 c4 k4
  have D4 : Df K mg "_law_deck" f4 _ ["_law_script"] := ⟨PySem.W.mg_of X G a4, k4, F4.binds fun _ _ _ _ _ _ us hl => match us, hl with | [_], _ => rfl⟩
  have F5 := fun_mk (st := topS 6) l5 c5 k5
  have D5 : Df K mg "_law_draw" f5 _ ["_law_deck_here", "_law_many"] := ⟨PySem.W.mg_of X G a5, k5, F5.binds fun _ _ _ _ _ _ us hl => match us, hl with | [_, _], _ => rfl⟩
  have F6 := fun_mk (st := topS 7) l6 c6 k6
  have D6 : Df K mg "_law_pick" f6 _ nPick := ⟨PySem.W.mg_of X G a6, k6, F6.binds fun _ _ _ _ _ _ us hl => match us, hl with | [_, _], _ => rfl⟩
  have F7 := fun_mk (st := topS 8) l7 c7 k7
  have D7 : Df K mg "_law_round" f7 _ ["_law_deck_here", "_law_many"] := ⟨PySem.W.mg_of X G a7, k7, F7.binds fun _ _ _ _ _ _ us hl => match us, hl with | [_, _], _ => rfl⟩
  have F8 := fun_mk (st := topS 9) l8 c8 k8
  have D8 : Df K mg "_law_misses" f8 _ nMisses := ⟨PySem.W.mg_of X G a8, k8, F8.binds fun _ _ _ _ _ _ us hl => match us, hl with | [_, _, _], _ => rfl⟩
  have F9 := fun_mk (st := topS 10) l9 c9 k9
  have D9 : Df K mg "_law_view" f9 _ pLV := ⟨PySem.W.mg_of X G a9, k9, F9.binds fun _ _ _ _ _ _ us hl => match us, hl with | [_, _, _], _ => rfl⟩
  have F10 := fun_mk (st := topS 11) l10 c10 k10
  have D10 : Df K mg "_law_has" f10 _ ["_law_it", "_law_word"] := ⟨PySem.W.mg_of X G a10, k10, F10.binds fun _ _ _ _ _ _ us hl => match us, hl with | [_, _], _ => rfl⟩
  have F11 := fun_mk (st := topS 12) l11 c11 k11
  have D11 : Df K mg "_law_apart_right" f11 _ pApart := ⟨PySem.W.mg_of X G a11, k11, F11.binds fun _ _ _ _ _ _ us hl => match us, hl with | [_, _, _], _ => rfl⟩
  have F12 := fun_mk (st := topS 13) l12 c12 k12
  have D12 : Df K mg "_law_right" f12 _ ["_law_deck_here"] := ⟨PySem.W.mg_of X G a12, k12, F12.binds fun _ _ _ _ _ _ us hl => match us, hl with | [_], _ => rfl⟩
  have F13 := fun_mk (st := topS 14) l13 c13 k13
  have bdV : KBinds K (PySem.W.fnOf "view" "view" (defArgs (topS 3)) (defBody (topS 3)) (defScope (topS 3)) .none kV3 dc3 pm3 an3 cd3 ct3) pView ["worker", "schedule", "inputs"] back3 back3 := by
    refine ⟨fun s us ws _ hl => ?_, fun {vs us zs ws} r q => ?_⟩
    · match us, ws, hl with
      | [], [_, _, _], _ => exact .of_eq rfl
      | [], [], hl => exact nomatch hl
      | [], [_], hl => exact nomatch hl
      | [], [_, _], hl => exact nomatch hl
      | [], _ :: _ :: _ :: _ :: _, hl => exact nomatch hl
      | _ :: _, _, hl => exact nomatch hl
    · cases r with
      | nil => exact back3_paired q
      | cons _ _ => exact .nil
  refine ⟨PySem.W.fnOf "law" "law" (defArgs (topS 14)) (defBody (topS 14)) (defScope (topS 14)) .none kV13 dc13 pm13 an13 cd13 ct13, fun s v => .of_eq rfl, fun base _ _ => ?_⟩
  have G1 : FnG l.prog w K mg base 1 _ _ _ _ := ok_hears (k := 0) F1
  have G2 : FnG l.prog w K mg base 2 _ _ _ _ := ok_heard (k := 1) F2 D1 G1 (PySem.W.mg_none_of X G z2) (PySem.W.mg_none_of X G z6)
  have G3 : FnG l.prog w K mg base 3 _ _ _ _ := ok_view (k := 2) F3 D2 G2 (PySem.W.mg_none_of X G z2) (PySem.W.mg_none_of X G z1) (PySem.W.mg_none_of X G z3)
  have G4 : FnG l.prog w K mg base 1 _ _ _ _ := ok_deck (k := 0) F4 (PySem.W.mg_none_of X G z8) (PySem.W.mg_none_of X G z9)
  have G5 : FnG l.prog w K mg base 1 _ _ _ _ := ok_draw (k := 0) F5 (PySem.W.mg_none_of X G z8)
  have G6 : FnG l.prog w K mg base 2 _ _ _ _ := ok_pick (k := 1) F6 D5 G5 (PySem.W.mg_none_of X G z3)
  have G7 : FnG l.prog w K mg base 3 _ _ _ _ := ok_round (k := 2) F7 D5 (G5.mono (by decide)) D6 G6 (PySem.W.mg_none_of X G z1) (PySem.W.mg_none_of X G z2)
  have G8 : FnG l.prog w K mg base 1 _ _ _ _ := ok_misses (k := 0) F8
  have G9 : FnG l.prog w K mg base 6 _ _ _ _ := ok_lview (k := 1) F9 D9 D8 G8 (PySem.W.mg_none_of X G z1) (PySem.W.mg_none_of X G z3) (PySem.W.mg_none_of X G z2) 4
  have G10 : FnG l.prog w K mg base 5 _ _ _ _ := ok_has (k := 0) F10 D10 (PySem.W.mg_none_of X G z7) (PySem.W.mg_none_of X G z2) 4
  have G11 : FnG l.prog w K mg base 6 _ _ _ _ := ok_apart (k := 5) F11 D3 (G3.mono (by decide)) D10 G10 (PySem.W.mg_none_of X G z1) (PySem.W.mg_none_of X G z2) (PySem.W.mg_none_of X G z3)
  have G12 : FnG l.prog w K mg base 7 _ _ _ _ := ok_right (k := 6) F12 D5 (G5.mono (by decide)) D6 (G6.mono (by decide)) D7 (G7.mono (by decide)) D9 G9 D3 (G3.mono (by decide)) bdV D11 G11 (PySem.W.mg_none_of X G z1) (PySem.W.mg_none_of X G z2) (PySem.W.mg_none_of X G z3) (PySem.W.mg_none_of X G z4) (PySem.W.mg_none_of X G z5)
  exact ok_law (k := 7) F13 D4 (G4.mono (by decide)) D12 G12 (PySem.W.mg_none_of X G z1)
end K10
open PySem PySem.W PyProof.Rows
set_option maxHeartbeats 0 in
theorem PySem.Challenge.cw_oneunheard_k10_views_beside_own_ones_holds : PySem.Challenge.rw_oneunheard_k10_views_beside_own_ones.Holds := by
  w_on; o_law; k_head; (case hw => w_witness2)
  k_fill
  refine DL.walkG (l := PySem.Challenge.rw_oneunheard_k10_views_beside_own_ones) (n := 63) (k := 8) (x := "_law_script") (S := K10.sLaw) rfl (by decide) rfl ⟨rfl, by decide, by decide⟩ (fun w h Y => PySem.W.kIn_of Y) ?F (fun ns hl => ⟨ns, rfl, rfl, ⟨rfl, hl⟩, fun r e => e⟩)
  case F =>
    intro w mg fa h KX G hmg
    refine' K10.all_mk KX G hmg ?a1 ?l1 ?c1 ?k1 ?a2 ?l2 ?c2 ?k2 ?a3 ?l3 ?c3 ?k3 ?a4 ?l4 ?c4 ?k4 ?a5 ?l5 ?c5 ?k5 ?a6 ?l6 ?c6 ?k6 ?a7 ?l7 ?c7 ?k7 ?a8 ?l8 ?c8 ?k8 ?a9 ?l9 ?c9 ?k9 ?a10 ?l10 ?c10 ?k10 ?a11 ?l11 ?c11 ?k11 ?a12 ?l12 ?c12 ?k12 ?a13 ?l13 ?c13 ?k13 ?z1 ?z2 ?z3 ?z4 ?z5 ?z6 ?z7 ?z8 ?z9
    (case a1 => k_is); (case l1 => k_is); (case c1 => k_is); (case k1 => k_is); (case a2 => k_is); (case l2 => k_is); (case c2 => k_is); (case k2 => k_is); (case a3 => k_is); (case l3 => k_is); (case c3 => k_is); (case k3 => k_is); (case a4 => k_is); (case l4 => k_is); (case c4 => k_is); (case k4 => k_is); (case a5 => k_is); (case l5 => k_is); (case c5 => k_is); (case k5 => k_is); (case a6 => k_is); (case l6 => k_is); (case c6 => k_is); (case k6 => k_is); (case a7 => k_is); (case l7 => k_is); (case c7 => k_is); (case k7 => k_is); (case a8 => k_is); (case l8 => k_is); (case c8 => k_is); (case k8 => k_is); (case a9 => k_is); (case l9 => k_is); (case c9 => k_is); (case k9 => k_is); (case a10 => k_is); (case l10 => k_is); (case c10 => k_is); (case k10 => k_is); (case a11 => k_is); (case l11 => k_is); (case c11 => k_is); (case k11 => k_is); (case a12 => k_is); (case l12 => k_is); (case c12 => k_is); (case k12 => k_is); (case a13 => k_is); (case l13 => k_is); (case c13 => k_is); (case k13 => k_is); (case z1 => k_is); (case z2 => k_is); (case z3 => k_is); (case z4 => k_is); (case z5 => k_is); (case z6 => k_is); (case z7 => k_is); (case z8 => k_is); (case z9 => k_is)
