import PyProof.Rows.All
import Wide.All
import OpenK.AllK
import Wide.FinOn
import HandS.Lambda
import HandS.ForMost
import HandS.Wide
import HandS.IsInst
import HandS.TupAny
import HandS.TupMul
import HandS.Style
import HandS.Zip
import HandS.Conv
import HandS.Flow
import HandS.ForExc
import HandS.TryMany
import HandS.ExcOwn
import HandS.EndOwn
import HandS.Defaults
import HandS.CallSlots
import PyProof.ExcBaseAll.ValueError
import PySem.Challenge.RW_trueroots_k01_what_is_a_fraction
set_option Elab.async false
set_option linter.all false
set_option maxRecDepth 100000
set_option maxHeartbeats 2000000
namespace AM
open PySem L2

inductive Sl where
  | no
  | dat (d : PyData)
  | own (xs : List PyData)
inductive Rv where
  | dat (d : PyData)
  | al (i : Nat)
def lk : List Sl → Nat → Sl
  | [], _ => .no
  | s :: _, 0 => s
  | _ :: r, n + 1 => lk r n
def st : List Sl → Nat → Sl → List Sl
  | [], _, _ => []
  | _ :: r, 0, t => t :: r
  | s :: r, n + 1, t => s :: st r n t
theorem lk_st_same : ∀ (g : List Sl) (i : Nat) (t : Sl), i < g.length → lk (st g i t) i = t
  | _ :: _, 0, _, _ => rfl
  | _ :: r, n + 1, t, h => lk_st_same r n t (Nat.lt_of_succ_lt_succ h)
theorem lk_st_ne : ∀ (g : List Sl) (i j : Nat) (t : Sl), i ≠ j → lk (st g i t) j = lk g j
  | [], _, _, _, _ => rfl
  | _ :: _, 0, 0, _, h => absurd rfl h
  | _ :: _, 0, _ + 1, _, _ => rfl
  | _ :: _, _ + 1, 0, _, _ => rfl
  | _ :: r, n + 1, m + 1, t, h => lk_st_ne r n m t (fun e => h (by rw [e]))
theorem st_length : ∀ (g : List Sl) (i : Nat) (t : Sl), (st g i t).length = g.length
  | [], _, _ => rfl
  | _ :: _, 0, _ => rfl
  | _ :: r, n + 1, t => by simp [st, st_length r n t]
theorem lk_big : ∀ (g : List Sl) (i : Nat), g.length ≤ i → lk g i = .no
  | [], _, _ => rfl
  | _ :: r, 0, h => absurd h (by simp)
  | _ :: r, n + 1, h => lk_big r n (Nat.le_of_succ_le_succ h)

def inb : List Sl → Nat → Bool
  | [], _ => false
  | _ :: _, 0 => true
  | _ :: r, n + 1 => inb r n
theorem inb_lt : ∀ {g : List Sl} {i : Nat}, inb g i = true → i < g.length
  | [], _, h => by cases h
  | _ :: r, 0, _ => by simp
  | _ :: r, n + 1, h => by
    have := inb_lt (g := r) (i := n) h
    rw [List.length_cons]; omega
mutual
inductive Dq (K : PySem.W.Frag) (H : Hp) : V → PyData → Prop
  | non : Dq K H .non .none
  | bl (b : Bool) : Dq K H (.bl b) (.bool b)
  | int (i : Int) : Dq K H (.int i) (.int i)
  | str (x : Str) : Dq K H (.str x) (.str x)
  | lst {a : Addr} {xs : List V} {ds : List PyData} : H a = some (.lst xs) → DqAll K H xs ds → Dq K H (.ref a) (.list ds)
  | tup {a : Addr} {xs : List V} {ds : List PyData} : SqT K H a xs → DqAll K H xs ds → Dq K H (.ref a) (.tuple ds)
inductive DqAll (K : PySem.W.Frag) (H : Hp) : List V → List PyData → Prop
  | nil : DqAll K H [] []
  | cons {v : V} {vs : List V} {d : PyData} {ds : List PyData} : Dq K H v d → DqAll K H vs ds → DqAll K H (v :: vs) (d :: ds)
end
section
variable {K : PySem.W.Frag} {H : Hp}
mutual
theorem dq_dp : ∀ (d : PyData) (v : V), Dq K H v d → Dp K H v d
  | .none, _, h => by cases h; exact .non
  | .bool b, _, h => by cases h; exact .bl b
  | .int i, _, h => by cases h; exact .int i
  | .str x, _, h => by cases h; exact .str x
  | .list ds, _, h => by
    cases h with
    | lst q a => exact .lst (.inl (.inl q)) (dqa_dp ds _ a)
  | .tuple ds, _, h => by
    cases h with
    | tup q a => exact .tup q (dqa_dp ds _ a)
  | .dict _, _, h => nomatch h
theorem dqa_dp : ∀ (ds : List PyData) (vs : List V), DqAll K H vs ds → DpAll K H vs ds
  | [], _, h => by cases h; exact .nil
  | d :: ds, _, h => by
    cases h with
    | cons q a => exact .cons (dq_dp d _ q) (dqa_dp ds _ a)
end
end
section
variable {K : PySem.W.Frag} {G H : Hp}
theorem rd_mono (e : Same G H) {a : Addr} {u : HO} (h : Rd G a u) : Rd H a u := by
  rcases h with h | ⟨o, h⟩
  · exact .inl (e _ _ h)
  · exact .inr ⟨o, e _ _ h⟩
theorem sqT_mono (e : Same G H) {a : Addr} {xs : List V} (h : SqT K G a xs) : SqT K H a xs := by
  rcases h with (h | ⟨o, h⟩) | h
  · exact .inl (.inl (e _ _ h))
  · exact .inl (.inr ⟨o, e _ _ h⟩)
  · exact .inr h
mutual
theorem dp_mono (e : Same G H) : ∀ (d : PyData) (v : V), Dq K G v d → Dq K H v d
  | .none, _, h => by cases h; exact .non
  | .bool b, _, h => by cases h; exact .bl b
  | .int i, _, h => by cases h; exact .int i
  | .str x, _, h => by cases h; exact .str x
  | .list ds, _, h => by
    cases h with
    | lst q a => exact .lst (e _ _ q) (dpa_mono e ds _ a)
  | .tuple ds, _, h => by
    cases h with
    | tup q a => exact .tup (sqT_mono e q) (dpa_mono e ds _ a)
  | .dict _, _, h => nomatch h
theorem dpa_mono (e : Same G H) : ∀ (ds : List PyData) (vs : List V), DqAll K G vs ds → DqAll K H vs ds
  | [], _, h => by cases h; exact .nil
  | d :: ds, _, h => by
    cases h with
    | cons q a => exact .cons (dp_mono e d _ q) (dpa_mono e ds _ a)
end
theorem dpa_len : ∀ {vs : List V} {ds : List PyData}, DqAll K G vs ds → vs.length = ds.length
  | _, _, .nil => rfl
  | _, _, .cons _ r => by simp [dpa_len r]
theorem dpa_get : ∀ {vs : List V} {ds : List PyData} {i : Nat} {d : PyData}, DqAll K G vs ds → ds[i]? = some d → ∃ v, vs[i]? = some v ∧ Dq K G v d
  | _, _, _, _, .nil, e => by simp at e
  | _, _, 0, _, .cons q _, e => by simp at e; subst e; exact ⟨_, rfl, q⟩
  | _, _, i + 1, d, .cons _ r, e => by
    obtain ⟨v, h1, h2⟩ := dpa_get (i := i) (d := d) r (by simpa using e)
    exact ⟨v, by simpa using h1, h2⟩
theorem dpa_get' : ∀ {vs : List V} {ds : List PyData} {i : Nat} {v : V}, DqAll K G vs ds → vs[i]? = some v → ∃ d, ds[i]? = some d ∧ Dq K G v d
  | _, _, _, _, .nil, e => by simp at e
  | _, _, 0, _, .cons q _, e => by simp at e; subst e; exact ⟨_, rfl, q⟩
  | _, _, i + 1, v, .cons _ r, e => by
    obtain ⟨d, h1, h2⟩ := dpa_get' (i := i) (v := v) r (by simpa using e)
    exact ⟨d, by simpa using h1, h2⟩
theorem dpa_app : ∀ {vs ws : List V} {ds es : List PyData}, DqAll K G vs ds → DqAll K G ws es → DqAll K G (vs ++ ws) (ds ++ es)
  | _, _, _, _, .nil, s => s
  | _, _, _, _, .cons q r, s => .cons q (dpa_app r s)
theorem dpa_set : ∀ {vs : List V} {ds : List PyData} (i : Nat) {v : V} {d : PyData}, DqAll K G vs ds → Dq K G v d → DqAll K G (vs.set i v) (ds.set i d)
  | _, _, _, _, _, .nil, _ => .nil
  | _, _, 0, _, _, .cons _ r, q => .cons q r
  | _, _, i + 1, _, _, .cons p r, q => .cons p (dpa_set i r q)
theorem dpa_take : ∀ {vs : List V} {ds : List PyData} (n : Nat), DqAll K G vs ds → DqAll K G (vs.take n) (ds.take n)
  | _, _, 0, _ => .nil
  | _, _, _ + 1, .nil => .nil
  | _, _, n + 1, .cons q r => .cons q (dpa_take n r)
theorem dpa_drop : ∀ {vs : List V} {ds : List PyData} (n : Nat), DqAll K G vs ds → DqAll K G (vs.drop n) (ds.drop n)
  | _, _, 0, r => r
  | _, _, _ + 1, .nil => .nil
  | _, _, n + 1, .cons _ r => dpa_drop n r
theorem dpa_rev : ∀ {vs : List V} {ds : List PyData}, DqAll K G vs ds → DqAll K G vs.reverse ds.reverse
  | _, _, .nil => .nil
  | _, _, .cons q r => by
    rw [List.reverse_cons, List.reverse_cons]
    exact dpa_app (dpa_rev r) (.cons q .nil)
theorem dpa_rep : ∀ (n : Nat) {v : V} {d : PyData}, Dq K G v d → DqAll K G (List.replicate n v) (List.replicate n d)
  | 0, _, _, _ => .nil
  | n + 1, _, _, q => .cons q (dpa_rep n q)
theorem dp_int {v : V} {i : Int} (h : Dq K G v (.int i)) : v = .int i := by cases h; rfl
theorem dp_bl {v : V} {b : Bool} (h : Dq K G v (.bool b)) : v = .bl b := by cases h; rfl
theorem dp_str {v : V} {x : Str} (h : Dq K G v (.str x)) : v = .str x := by cases h; rfl
theorem dp_non {v : V} (h : Dq K G v .none) : v = .non := by cases h; rfl
theorem dp_tup {v : V} {ds : List PyData} (h : Dq K G v (.tuple ds)) : ∃ a xs, v = .ref a ∧ SqT K G a xs ∧ DqAll K G xs ds := by
  cases h with
  | tup q a => exact ⟨_, _, rfl, q, a⟩
theorem dp_lst {v : V} {ds : List PyData} (h : Dq K G v (.list ds)) : ∃ a xs, v = .ref a ∧ G a = some (.lst xs) ∧ DqAll K G xs ds := by
  cases h with
  | lst q a => exact ⟨_, _, rfl, q, a⟩
theorem dpa_ints : ∀ {vs : List V} {ns : List Int}, DqAll K G vs (ns.map .int) → vs = ns.map V.int
  | _, [], h => by cases h; rfl
  | _, n :: ns, h => by
    cases h with
    | cons q r => rw [dp_int q, dpa_ints r]; rfl
theorem dpa_of_ints : ∀ (ns : List Int), DqAll K G (ns.map V.int) (ns.map .int)
  | [] => .nil
  | n :: ns => .cons (.int n) (dpa_of_ints ns)
theorem dpa_bls : ∀ {vs : List V} {bs : List Bool}, DqAll K G vs (bs.map .bool) → vs = bs.map V.bl
  | _, [], h => by cases h; rfl
  | _, n :: ns, h => by
    cases h with
    | cons q r => rw [dp_bl q, dpa_bls r]; rfl
end
theorem same_upd {H : Hp} {p : Addr} {o : HO} (h : H p = none) : Same H (upd H p o) := fun b x e => by
  rw [upd_ne (ne_of_none e h)]
  exact e

structure Fx where
  B : List (Nat × Addr)
  H0 : Hp
  G0 : Hp
  T : List (Addr × Str)
def Fx.M (F : Fx) (a : Addr) : Prop := (∃ i, (i, a) ∈ F.B) ∨ ∃ q, (a, q) ∈ F.T
def NoTb (o : HO) : Prop := ∀ ps, o ≠ .tbl ps
def NT (G : Hp) : Prop := ∀ a o, G a = some o → NoTb o
theorem noTb_lst {vs : List V} : NoTb (.lst vs) := fun _ z => by cases z
theorem NT.upd {G : Hp} {p : Addr} {o : HO} (h : NT G) (ho : NoTb o) : NT (upd G p o) := fun a u e => by
  by_cases q : a = p
  · subst q; rw [upd_same] at e; cases e; exact ho
  · rw [upd_ne q] at e; exact h a u e
def pf (F : Fx) (i : Nat) : Bool := F.B.all fun q => q.1 != i
theorem pf_ne {F : Fx} {i : Nat} (h : pf F i = true) : ∀ q ∈ F.B, q.1 ≠ i := fun q hq => by
  have := List.all_eq_true.mp h q hq
  simpa using this
def SlOk (K : PySem.W.Frag) (F : Fx) (G H : Hp) : Sl → Option (Option V) → Prop
  | .no, _ => True
  | .dat d, o => ∃ v, o = some (some v) ∧ Dq K G v d
  | .own xs, o => ∃ p vs, o = some (some (.ref p)) ∧ G p = none ∧ H p = some (.lst vs) ∧ DqAll K G vs xs ∧ (F.M p ∨ F.H0 p = none)
def Own (σ : L2.St) (Γ : List Sl) (a : Addr) : Prop := ∃ i xs, lk Γ i = .own xs ∧ σ[i]? = some (some (.ref a))
structure En (K : PySem.W.Frag) (F : Fx) (G : Hp) (σ : L2.St) (H : Hp) (Γ : List Sl) : Prop where
  le : Same G H
  g0 : Same F.G0 G
  fr : ∀ a o, G a = some o → (∃ o', F.G0 a = some o') ∨ F.H0 a = none
  base : ∀ a o, ¬ F.M a → F.H0 a = some o → H a = some o
  mu : ∀ a, F.M a → ∃ o, H a = some o
  sl : ∀ i, SlOk K F G H (lk Γ i) σ[i]?
  nd : ∀ i j p xs ys, lk Γ i = .own xs → lk Γ j = .own ys → σ[i]? = some (some (.ref p)) → σ[j]? = some (some (.ref p)) → i = j
  len : σ.length = Γ.length
  pin : ∀ q ∈ F.B, σ[q.1]? = some (some (.ref q.2)) ∧ ∃ xs, lk Γ q.1 = .own xs
  tab : LamX.Tabs F.T H
  nt : NT G
theorem tabs_keep {T : List (Addr × Str)} {H H' : Hp} (t : LamX.Tabs T H) (k : ∀ a o, H a = some o → (∀ vs, o ≠ .lst vs) → H' a = some o) : LamX.Tabs T H' := fun p hp => by
  obtain ⟨ps, h1, h2, h3⟩ := t p hp
  refine ⟨ps, k _ _ h1 (fun vs z => by cases z), h2, fun pos cv hc => ?_⟩
  obtain ⟨c, e1, e2⟩ := h3 pos cv hc
  exact ⟨c, e1, k _ _ e2 (fun vs z => by unfold LamX.CodeO at z; cases z)⟩
theorem tabs_write {T : List (Addr × Str)} {H : Hp} {p : Addr} {us : List V} {o : HO} (t : LamX.Tabs T H) (hp : H p = some (.lst us)) : LamX.Tabs T (upd H p o) := tabs_keep t fun a u h n => by
  rw [upd_ne (fun z => n us (by rw [z, hp] at h; exact (Option.some.inj h).symm))]
  exact h
theorem tabs_ne {T : List (Addr × Str)} {H : Hp} {p : Addr} {us : List V} (t : LamX.Tabs T H) (hp : H p = some (.lst us)) : ¬ ∃ q, (p, q) ∈ T := fun ⟨q, hq⟩ => by
  obtain ⟨ps, h1, _⟩ := t _ hq
  have h1 : H p = _ := h1
  rw [hp] at h1
  cases h1
def Nl (H : Hp) (a : Addr) : Prop := ∀ vs, H a ≠ some (.lst vs)
theorem Nl.none {H : Hp} {a : Addr} (h : H a = none) : Nl H a := fun vs e => by rw [h] at e; cases e
structure Step (σ : L2.St) (Γ Γ' : List Sl) (G H G' H' : Hp) : Prop where
  g : Same G G'
  f : ∀ a o, G' a = some o → (∃ o', G a = some o') ∨ Nl H a
  k : ∀ a o, H a = some o → ¬ Own σ Γ a → NoTb o → H' a = some o
  o : ∀ a, Own σ Γ' a → Own σ Γ a
  s : ∀ a vs, H a = some (.lst vs) → ∃ vs', H' a = some (.lst vs')
theorem Step.nl {σ : L2.St} {Γ Γ' : List Sl} {G H G' H' : Hp} (s : Step σ Γ Γ' G H G' H') {a : Addr} (h : Nl H' a) : Nl H a := fun vs e => by
  obtain ⟨vs', e'⟩ := s.s a vs e
  exact h vs' e'
def Fre (F : Fx) (H : Hp) (p : Addr) : Prop := Nl H p ∧ F.H0 p = none
theorem Fre.back {F : Fx} {σ : L2.St} {Γ Γ' : List Sl} {G H G' H' : Hp} {p : Addr} (h : Fre F H' p) (s : Step σ Γ Γ' G H G' H') : Fre F H p := ⟨s.nl h.1, h.2⟩
def VR (K : PySem.W.Frag) (G : Hp) (σ : L2.St) (v : V) : Rv → Prop
  | .dat d => Dq K G v d
  | .al i => σ[i]? = some (some v)
def tD (K : PySem.W.Frag) (F : Fx) (Γ : List Sl) (r : Rv) (Γ' : List Sl) : TE := fun σ H Q => ∃ G, En K F G σ H Γ ∧
  ∀ v H' G', Step σ Γ Γ' G H G' H' → En K F G' σ H' Γ' → VR K G' σ v r → Q v H'
def tN (K : PySem.W.Frag) (F : Fx) (Γ : List Sl) (xs : List PyData) (Γ' : List Sl) : TE := fun σ H Q => ∃ G, En K F G σ H Γ ∧
  ∀ p vs H' G', Step σ Γ Γ' G H G' H' → En K F G' σ H' Γ' → Fre F H p → G' p = none → H' p = some (.lst vs) → DqAll K G' vs xs → Q (.ref p) H'
def tDT (K : PySem.W.Frag) (F : Fx) (Γ : List Sl) (b : Bool) (Γ' : List Sl) : TT := fun σ H Q => ∃ G, En K F G σ H Γ ∧
  ∀ H' G', Step σ Γ Γ' G H G' H' → En K F G' σ H' Γ' → Q b H'
def tDA (K : PySem.W.Frag) (F : Fx) (Γ : List Sl) (rs : List Rv) (Γ' : List Sl) : TA := fun σ H Q => ∃ G, En K F G σ H Γ ∧
  ∀ vs H' G', Step σ Γ Γ' G H G' H' → En K F G' σ H' Γ' → Paired (fun v r => VR K G' σ v r) vs rs → Q vs H'
def vwS : Sl → Option PyData
  | .own xs => some (.list xs)
  | .dat d => some d
  | .no => none
def vw (Γ : List Sl) : Rv → Option PyData
  | .dat d => some d
  | .al i => vwS (lk Γ i)
section
variable {K : PySem.W.Frag} {F : Fx} {σ : L2.St} {Γ Γ1 Γ2 : List Sl} {G H G1 H1 G2 H2 : Hp}
theorem Step.refl : Step σ Γ Γ G H G H := ⟨fun _ _ h => h, fun a o h => .inl ⟨o, h⟩, fun _ _ h _ _ => h, fun _ h => h, fun _ vs h => ⟨vs, h⟩⟩
theorem Step.trans (a : Step σ Γ Γ1 G H G1 H1) (b : Step σ Γ1 Γ2 G1 H1 G2 H2) : Step σ Γ Γ2 G H G2 H2 where
  g := fun x o h => b.g x o (a.g x o h)
  f := fun x o h => by
    rcases b.f x o h with ⟨o', h'⟩ | h'
    · exact a.f x o' h'
    · exact .inr (a.nl h')
  k := fun x o h n t => b.k x o (a.k x o h n t) (fun z => n (a.o x z)) t
  o := fun x h => a.o x (b.o x h)
  s := fun x vs h => by
    obtain ⟨vs', h'⟩ := a.s x vs h
    exact b.s x vs' h'
theorem VR.mono {v : V} {r : Rv} (e : Same G G1) (h : VR K G σ v r) : VR K G1 σ v r := by
  cases r with
  | dat d => exact dp_mono e d v h
  | al i => exact h
theorem En.no (E : En K F G σ H Γ) {p : Addr} (h : H p = none) : F.H0 p = none ∧ ¬ F.M p ∧ G p = none := by
  have nm : ¬ F.M p := fun z => by
    obtain ⟨o, e⟩ := E.mu p z
    rw [h] at e; cases e
  refine ⟨?_, nm, ?_⟩
  · cases q : F.H0 p with
    | none => rfl
    | some o =>
      have := E.base p o nm q
      rw [h] at this; cases this
  · cases q : G p with
    | none => rfl
    | some o =>
      have := E.le p o q
      rw [h] at this; cases this
theorem En.own (E : En K F G σ H Γ) {a : Addr} (h : Own σ Γ a) : G a = none ∧ ∃ vs, H a = some (.lst vs) := by
  obtain ⟨i, xs, e, es⟩ := h
  have s := E.sl i
  rw [e] at s
  obtain ⟨p, vs, e1, g, hp, _⟩ := s
  rw [es] at e1
  cases e1
  exact ⟨g, vs, hp⟩
theorem En.view (E : En K F G σ H Γ) {v : V} {r : Rv} {d : PyData} (h : VR K G σ v r) (e : vw Γ r = some d) : Dq K H v d := by
  cases r with
  | dat d' =>
    have : d' = d := Option.some.inj e
    subst this
    exact dp_mono E.le _ v h
  | al i =>
    have s := E.sl i
    have h : σ[i]? = some (some v) := h
    have e : vwS (lk Γ i) = some d := e
    cases q : lk Γ i with
    | no => rw [q] at e; cases e
    | dat d' =>
      rw [q] at e s
      have : d' = d := Option.some.inj e
      subst this
      obtain ⟨v', e1, hd⟩ := s
      rw [h] at e1
      cases e1
      exact dp_mono E.le _ _ hd
    | own xs =>
      rw [q] at e s
      have : PyData.list xs = d := Option.some.inj e
      subst this
      obtain ⟨p, vs, e1, g, hp, ha, _⟩ := s
      rw [h] at e1
      cases e1
      exact .lst hp (dpa_mono E.le _ _ ha)
theorem En.newDat (E : En K F G σ H Γ) {p : Addr} {o : HO} (h : H p = none) (ho : NoTb o := by intro _ z; cases z) : En K F (upd G p o) σ (upd H p o) Γ where
  le := fun a u e => by
    by_cases q : a = p
    · subst q; rw [upd_same] at e ⊢; exact e
    · rw [upd_ne q] at e ⊢; exact E.le a u e
  g0 := fun a u e => by
    have := E.g0 a u e
    rw [upd_ne (ne_of_none this (E.no h).2.2)]
    exact this
  fr := fun a u e => by
    by_cases q : a = p
    · subst q; exact .inr (E.no h).1
    · rw [upd_ne q] at e; exact E.fr a u e
  base := fun a u n e => by
    have := E.base a u n e
    rw [upd_ne (ne_of_none this h)]
    exact this
  mu := fun a m => by
    obtain ⟨u, e⟩ := E.mu a m
    exact ⟨u, by rw [upd_ne (ne_of_none e h)]; exact e⟩
  sl := fun i => by
    have s := E.sl i
    have sg : Same G (upd G p o) := same_upd (E.no h).2.2
    cases q : lk Γ i with
    | no => trivial
    | dat d =>
      rw [q] at s
      obtain ⟨v, e, hd⟩ := s
      exact ⟨v, e, dp_mono sg _ _ hd⟩
    | own xs =>
      rw [q] at s
      obtain ⟨a, vs, e, g, hp, ha, hm⟩ := s
      have ne : a ≠ p := ne_of_none hp h
      exact ⟨a, vs, e, by rw [upd_ne ne]; exact g, by rw [upd_ne ne]; exact hp, dpa_mono sg _ _ ha, hm⟩
  nd := E.nd
  len := E.len
  pin := E.pin
  tab := E.tab.ext (same_upd h)
  nt := E.nt.upd ho
theorem En.newRaw (E : En K F G σ H Γ) {p : Addr} {o : HO} (h : H p = none) : En K F G σ (upd H p o) Γ where
  le := fun a u e => by
    have := E.le a u e
    rw [upd_ne (ne_of_none this h)]; exact this
  g0 := E.g0
  fr := E.fr
  base := fun a u n e => by
    have := E.base a u n e
    rw [upd_ne (ne_of_none this h)]
    exact this
  mu := fun a m => by
    obtain ⟨u, e⟩ := E.mu a m
    exact ⟨u, by rw [upd_ne (ne_of_none e h)]; exact e⟩
  sl := fun i => by
    have s := E.sl i
    cases q : lk Γ i with
    | no => trivial
    | dat d => rw [q] at s; exact s
    | own xs =>
      rw [q] at s
      obtain ⟨a, vs, e, g, hp, ha, hm⟩ := s
      have ne : a ≠ p := ne_of_none hp h
      exact ⟨a, vs, e, g, by rw [upd_ne ne]; exact hp, ha, hm⟩
  nd := E.nd
  len := E.len
  pin := E.pin
  tab := E.tab.ext (same_upd h)
  nt := E.nt
theorem Step.newDat {p : Addr} {o : HO} (h : H p = none) (g : G p = none) : Step σ Γ Γ G H (upd G p o) (upd H p o) where
  g := same_upd g
  f := fun a u e => by
    by_cases q : a = p
    · subst q; exact .inr (.none h)
    · rw [upd_ne q] at e; exact .inl ⟨u, e⟩
  k := fun a u e _ _ => by rw [upd_ne (ne_of_none e h)]; exact e
  o := fun _ z => z
  s := fun a vs e => ⟨vs, by rw [upd_ne (ne_of_none e h)]; exact e⟩
theorem Step.newRaw {p : Addr} {o : HO} (h : H p = none) : Step σ Γ Γ G H G (upd H p o) where
  g := fun _ _ e => e
  f := fun a u e => .inl ⟨u, e⟩
  k := fun a u e _ _ => by rw [upd_ne (ne_of_none e h)]; exact e
  o := fun _ z => z
  s := fun a vs e => ⟨vs, by rw [upd_ne (ne_of_none e h)]; exact e⟩
theorem En.freeze (E : En K F G σ H Γ) {p : Addr} {o : HO} (h : H p = some o) (g : G p = none) (n : ¬ Own σ Γ p) (h0 : F.H0 p = none) (ho : NoTb o := by intro _ z; cases z) : En K F (upd G p o) σ H Γ where
  le := fun a u e => by
    by_cases q : a = p
    · subst q; rw [upd_same] at e; cases e; exact h
    · rw [upd_ne q] at e; exact E.le a u e
  g0 := fun a u e => by
    have := E.g0 a u e
    rw [upd_ne (ne_of_none this g)]
    exact this
  fr := fun a u e => by
    by_cases q : a = p
    · subst q; exact .inr h0
    · rw [upd_ne q] at e; exact E.fr a u e
  base := E.base
  mu := E.mu
  sl := fun i => by
    have s := E.sl i
    have sg : Same G (upd G p o) := same_upd g
    cases q : lk Γ i with
    | no => trivial
    | dat d =>
      rw [q] at s
      obtain ⟨v, e, hd⟩ := s
      exact ⟨v, e, dp_mono sg _ _ hd⟩
    | own xs =>
      rw [q] at s
      obtain ⟨a, vs, e, g, hp, ha, hm⟩ := s
      have ne : a ≠ p := fun z => n (by rw [← z]; exact ⟨i, xs, q, e⟩)
      exact ⟨a, vs, e, by rw [upd_ne ne]; exact g, hp, dpa_mono sg _ _ ha, hm⟩
  nd := E.nd
  len := E.len
  pin := E.pin
  tab := E.tab
  nt := E.nt.upd ho
theorem En.setDat (E : En K F G σ H Γ) {i : Nat} {v : V} {d : PyData} (h : Dq K G v d) (hi : i < Γ.length) (hb : pf F i = true) : En K F G (σ.set i (some v)) H (st Γ i (.dat d)) where
  le := E.le
  g0 := E.g0
  fr := E.fr
  base := E.base
  mu := E.mu
  sl := fun j => by
    by_cases q : i = j
    · subst q
      rw [lk_st_same _ _ _ hi, List.getElem?_set_self (by rw [E.len]; exact hi)]
      exact ⟨v, rfl, h⟩
    · rw [lk_st_ne _ _ _ _ q, List.getElem?_set_ne q]
      exact E.sl j
  nd := fun a b p xs ys e1 e2 e3 e4 => by
    by_cases qa : i = a
    · subst qa; rw [lk_st_same _ _ _ hi] at e1; cases e1
    · by_cases qb : i = b
      · subst qb; rw [lk_st_same _ _ _ hi] at e2; cases e2
      · rw [lk_st_ne _ _ _ _ qa] at e1
        rw [lk_st_ne _ _ _ _ qb] at e2
        rw [List.getElem?_set_ne qa] at e3
        rw [List.getElem?_set_ne qb] at e4
        exact E.nd a b p xs ys e1 e2 e3 e4
  len := by rw [List.length_set, st_length]; exact E.len
  pin := fun q hq => by
    have ne := pf_ne hb q hq
    rw [List.getElem?_set_ne (Ne.symm ne), lk_st_ne _ _ _ _ (Ne.symm ne)]
    exact E.pin q hq
  tab := E.tab
  nt := E.nt
theorem En.setOwn (E : En K F G σ H Γ) {i : Nat} {p : Addr} {vs : List V} {xs : List PyData} (hi : i < Γ.length) (h : H p = some (.lst vs)) (g : G p = none) (n : ¬ Own σ Γ p) (h0 : F.H0 p = none) (ha : DqAll K G vs xs) (hb : pf F i = true) :
    En K F G (σ.set i (some (.ref p))) H (st Γ i (.own xs)) where
  le := E.le
  g0 := E.g0
  fr := E.fr
  base := E.base
  mu := E.mu
  sl := fun j => by
    by_cases q : i = j
    · subst q
      rw [lk_st_same _ _ _ hi, List.getElem?_set_self (by rw [E.len]; exact hi)]
      exact ⟨p, vs, rfl, g, h, ha, .inr h0⟩
    · rw [lk_st_ne _ _ _ _ q, List.getElem?_set_ne q]
      exact E.sl j
  nd := fun a b p' ys zs e1 e2 e3 e4 => by
    have hs : i < σ.length := by rw [E.len]; exact hi
    by_cases qa : i = a
    · by_cases qb : i = b
      · exact qa.symm.trans qb
      · subst qa
        rw [List.getElem?_set_self hs] at e3
        rw [lk_st_ne _ _ _ _ qb] at e2
        rw [List.getElem?_set_ne qb] at e4
        cases e3
        exact absurd ⟨b, zs, e2, e4⟩ n
    · by_cases qb : i = b
      · subst qb
        rw [List.getElem?_set_self hs] at e4
        rw [lk_st_ne _ _ _ _ qa] at e1
        rw [List.getElem?_set_ne qa] at e3
        cases e4
        exact absurd ⟨a, ys, e1, e3⟩ n
      · rw [lk_st_ne _ _ _ _ qa] at e1
        rw [lk_st_ne _ _ _ _ qb] at e2
        rw [List.getElem?_set_ne qa] at e3
        rw [List.getElem?_set_ne qb] at e4
        exact E.nd a b p' ys zs e1 e2 e3 e4
  len := by rw [List.length_set, st_length]; exact E.len
  pin := fun q hq => by
    have ne := pf_ne hb q hq
    rw [List.getElem?_set_ne (Ne.symm ne), lk_st_ne _ _ _ _ (Ne.symm ne)]
    exact E.pin q hq
  tab := E.tab
  nt := E.nt
theorem En.drop (E : En K F G σ H Γ) (i : Nat) (hb : pf F i = true) : En K F G σ H (st Γ i .no) where
  le := E.le
  g0 := E.g0
  fr := E.fr
  base := E.base
  mu := E.mu
  sl := fun j => by
    by_cases q : i = j
    · subst q
      by_cases hi : i < Γ.length
      · rw [lk_st_same _ _ _ hi]; trivial
      · rw [lk_big _ _ (by rw [st_length]; omega)]; trivial
    · rw [lk_st_ne _ _ _ _ q]
      exact E.sl j
  nd := fun a b p xs ys e1 e2 e3 e4 => by
    have aux : ∀ c zs, lk (st Γ i .no) c = .own zs → lk Γ c = .own zs := fun c zs e => by
      by_cases q : i = c
      · subst q
        by_cases hi : i < Γ.length
        · rw [lk_st_same _ _ _ hi] at e; cases e
        · rw [lk_big _ _ (by rw [st_length]; omega)] at e; cases e
      · rwa [lk_st_ne _ _ _ _ q] at e
    exact E.nd a b p xs ys (aux a xs e1) (aux b ys e2) e3 e4
  len := by rw [st_length]; exact E.len
  pin := fun q hq => by
    have ne := pf_ne hb q hq
    rw [lk_st_ne _ _ _ _ (Ne.symm ne)]
    exact E.pin q hq
  tab := E.tab
  nt := E.nt
theorem En.write (E : En K F G σ H Γ) {i : Nat} {p : Addr} {vs : List V} {xs ys : List PyData} (e : lk Γ i = .own xs) (es : σ[i]? = some (some (.ref p))) (ha : DqAll K G vs ys) :
    En K F G σ (upd H p (.lst vs)) (st Γ i (.own ys)) := by
  have hi : i < Γ.length := by
    apply Classical.byContradiction
    intro h
    rw [lk_big _ _ (by omega)] at e
    cases e
  obtain ⟨gp, us, hp⟩ := E.own ⟨i, xs, e, es⟩
  have s0 := E.sl i
  rw [e] at s0
  obtain ⟨p', us', e1, g, hp', _, hm⟩ := s0
  rw [es] at e1
  cases e1
  refine ⟨fun a u q => ?_, E.g0, E.fr, fun a u n q => ?_, fun a m => ?_, fun j => ?_, fun a b q' zs ws e1 e2 e3 e4 => ?_, by rw [st_length]; exact E.len, fun q hq => ⟨(E.pin q hq).1, ?_⟩, tabs_write E.tab hp, E.nt⟩
  · rw [upd_ne (ne_of_none q gp)]; exact E.le a u q
  · have ne : a ≠ p := by
      intro z
      subst z
      rcases hm with m | m
      · exact n m
      · rw [m] at q; cases q
    rw [upd_ne ne]; exact E.base a u n q
  · obtain ⟨u, q⟩ := E.mu a m
    by_cases z : a = p
    · subst z; exact ⟨_, upd_same⟩
    · exact ⟨u, by rw [upd_ne z]; exact q⟩
  · by_cases q : i = j
    · subst q
      rw [lk_st_same _ _ _ hi]
      exact ⟨p, vs, es, gp, upd_same, ha, hm⟩
    · rw [lk_st_ne _ _ _ _ q]
      have s := E.sl j
      cases ql : lk Γ j with
      | no => trivial
      | dat d => rw [ql] at s; exact s
      | own zs =>
        rw [ql] at s
        obtain ⟨a, ws, e3, g3, hp3, ha3, hm3⟩ := s
        have ne : a ≠ p := fun z => by
          subst z
          exact q (E.nd i j a xs zs e ql es e3)
        exact ⟨a, ws, e3, g3, by rw [upd_ne ne]; exact hp3, ha3, hm3⟩
  · have aux : ∀ c zs, lk (st Γ i (.own ys)) c = .own zs → ∃ zs', lk Γ c = .own zs' := fun c zs h => by
      by_cases q : i = c
      · subst q; exact ⟨xs, e⟩
      · rw [lk_st_ne _ _ _ _ q] at h; exact ⟨zs, h⟩
    obtain ⟨z1, h1⟩ := aux a zs e1
    obtain ⟨z2, h2⟩ := aux b ws e2
    exact E.nd a b q' z1 z2 h1 h2 e3 e4
  · by_cases w : i = q.1
    · rw [← w, lk_st_same _ _ _ hi]; exact ⟨ys, rfl⟩
    · rw [lk_st_ne _ _ _ _ w]; exact (E.pin q hq).2
theorem Step.write {i : Nat} {p : Addr} {vs : List V} {xs ys : List PyData} (e : lk Γ i = .own xs) (es : σ[i]? = some (some (.ref p))) : Step σ Γ (st Γ i (.own ys)) G H G (upd H p (.lst vs)) where
  g := fun _ _ h => h
  f := fun a o h => .inl ⟨o, h⟩
  k := fun a o h n _ => by
    rw [upd_ne (fun z => n (by rw [z]; exact ⟨i, xs, e, es⟩))]
    exact h
  o := fun a ⟨j, zs, h1, h2⟩ => by
    by_cases q : i = j
    · subst q; exact ⟨i, xs, e, h2⟩
    · rw [lk_st_ne _ _ _ _ q] at h1; exact ⟨j, zs, h1, h2⟩
  s := fun a us h => by
    by_cases q : a = p
    · subst q; exact ⟨vs, upd_same⟩
    · exact ⟨us, by rw [upd_ne q]; exact h⟩
theorem fre_of {G' H' : Hp} {Γ' : List Sl} (s : Step σ Γ Γ' G H G' H') (E : En K F G' σ H' Γ') {p : Addr} (hp : H' p = none) : Fre F H p := ⟨s.nl (.none hp), (E.no hp).1⟩
end
theorem pe_imp {X : Cx} {e : Expr} {t t' : TE} (h : PE X e t) (i : ∀ σ H Q, t' σ H Q → t σ H Q) : PE X e t' := ⟨fun pins s σ H Q I q => h.run pins s σ H Q I (i σ H Q q)⟩
theorem pt_imp {X : Cx} {e : Expr} {t t' : TT} (h : PT X e t) (i : ∀ σ H Q, t' σ H Q → t σ H Q) : PT X e t' := ⟨fun pins s σ H Q I q => h.run pins s σ H Q I (i σ H Q q)⟩
theorem pw_imp {X : Cx} {e : Expr} {t t' : TT} (h : PW X e t) (i : ∀ σ H Q, t' σ H Q → t σ H Q) : PW X e t' := ⟨fun wh pins s σ H Q I q => h.run wh pins s σ H Q I (i σ H Q q)⟩
theorem pa_imp {X : Cx} {es : List Expr} {t t' : TA} (h : PA X es t) (i : ∀ σ H Q, t' σ H Q → t σ H Q) : PA X es t' := ⟨fun pos pins s σ H Q I q => h.run pos pins s σ H Q I (i σ H Q q)⟩
theorem ps_imp {X : Cx} {s : Stmt} {t t' : TS} (h : PS X s t) (i : ∀ D σ H, t' D σ H → t D σ H) : PS X s t' := ⟨fun pins s σ H D I q => h.run pins s σ H D I (i D σ H q)⟩
theorem pss_imp {X : Cx} {s : List Stmt} {t t' : TS} (h : PSs X s t) (i : ∀ D σ H, t' D σ H → t D σ H) : PSs X s t' := ⟨fun pins s σ H D I q => h.run pins s σ H D I (i D σ H q)⟩
end AM

set_option Elab.async false
set_option linter.all false
set_option maxRecDepth 100000
set_option maxHeartbeats 2000000
namespace AM
open PySem L2
section
variable {X : Cx} {F : Fx} {Γ Γ1 Γ2 Γ3 : List Sl} {a b c e : Expr} {pos : Pos} {ra rb rc : Rv} {da db dc : PyData}
theorem de_var (i : Nat) {x : Str} {d : PyData} (hl : lk Γ i = .dat d := by rfl) (hN : X.N[i]? = some x := by rfl) (hv : Vis X.env.scope x := by first | exact Or.inl rfl | exact Or.inr (Or.inl rfl) | exact Or.inr (Or.inr rfl)) (hd : (x == ("__debug__" : Str)) = false := by decide)
    (hcd : (x == ("__classdict__" : Str)) = false := by decide) : PE X (.Name x pos) (tD X.K F Γ (.dat d) Γ) :=
  pe_imp (pe_var hN hv hd hcd) fun σ H Q ⟨G, E, k⟩ => by
    have s := E.sl i
    rw [hl] at s
    obtain ⟨v, e, hd⟩ := s
    exact ⟨v, e, k v H G Step.refl E hd⟩
theorem de_varO (i : Nat) {x : Str} {xs : List PyData} (hl : lk Γ i = .own xs := by rfl) (hN : X.N[i]? = some x := by rfl) (hv : Vis X.env.scope x := by first | exact Or.inl rfl | exact Or.inr (Or.inl rfl) | exact Or.inr (Or.inr rfl)) (hd : (x == ("__debug__" : Str)) = false := by decide)
    (hcd : (x == ("__classdict__" : Str)) = false := by decide) : PE X (.Name x pos) (tD X.K F Γ (.al i) Γ) :=
  pe_imp (pe_var hN hv hd hcd) fun σ H Q ⟨G, E, k⟩ => by
    have s := E.sl i
    rw [hl] at s
    obtain ⟨p, vs, e, _⟩ := s
    exact ⟨.ref p, e, k _ H G Step.refl E e⟩
theorem de_c {v : V} {d : PyData} (h : PE X e (tC v)) (hd : ∀ G, Dq X.K G v d) : PE X e (tD X.K F Γ (.dat d) Γ) :=
  pe_imp h fun σ H Q ⟨G, E, k⟩ => k v H G Step.refl E (hd G)
theorem de_int {i : Int} {j : Nat} : PE X (.Constant (.int i) j pos) (tD X.K F Γ (.dat (.int i)) Γ) := de_c pe_int fun _ => .int i
theorem de_bl {i : Bool} {j : Nat} : PE X (.Constant (.bool i) j pos) (tD X.K F Γ (.dat (.bool i)) Γ) := de_c pe_bl fun _ => .bl i
theorem de_non {j : Nat} : PE X (.Constant .none j pos) (tD X.K F Γ (.dat .none) Γ) := de_c pe_non fun _ => .non
theorem de_str {x : Str} {j : Nat} : PE X (.Constant (.str x) j pos) (tD X.K F Γ (.dat (.str x)) Γ) := de_c pe_str fun _ => .str x
theorem de_globI {x : Str} {i : Int} {u : Value} (hm : X.mg x = some u) (r : RelV (.int i) u) (hg : Gl X x := by rfl) (hd : (x == ("__debug__" : Str)) = false := by decide) : PE X (.Name x pos) (tD X.K F Γ (.dat (.int i)) Γ) := de_c (pe_glob hg hm r hd) fun _ => .int i
def RD2 (K : PySem.W.Frag) (F : Fx) (Γ : List Sl) (r : R2) (ra rb rc : Rv) : Prop := ∀ G H σ x y (Q : VK), En K F G σ H Γ → VR K G σ x ra → VR K G σ y rb →
  (∀ v H' G', Step σ Γ Γ G H G' H' → En K F G' σ H' Γ → VR K G' σ v rc → Q v H') → r x y H Q
def RN2 (K : PySem.W.Frag) (F : Fx) (Γ : List Sl) (r : R2) (ra rb : Rv) (xs : List PyData) : Prop := ∀ G H σ x y (Q : VK), En K F G σ H Γ → VR K G σ x ra → VR K G σ y rb →
  (∀ p vs H' G', Step σ Γ Γ G H G' H' → En K F G' σ H' Γ → Fre F H p → G' p = none → H' p = some (.lst vs) → DqAll K G' vs xs → Q (.ref p) H') → r x y H Q
theorem td_op {K : PySem.W.Frag} {r : R2} (h : RD2 K F Γ2 r ra rb rc) {σ : L2.St} {H : Hp} {Q : VK} (q : tD K F Γ rc Γ2 σ H Q) : tOp r (tD K F Γ ra Γ1) (tD K F Γ1 rb Γ2) σ H Q := by
  obtain ⟨G, E, k⟩ := q
  refine ⟨G, E, fun x H1 G1 s1 E1 v1 => ⟨G1, E1, fun y H2 G2 s2 E2 v2 => ?_⟩⟩
  exact h G2 H2 σ x y Q E2 (v1.mono s2.g) v2 fun v H3 G3 s3 E3 v3 => k v H3 G3 ((s1.trans s2).trans s3) E3 v3
theorem tn_op {K : PySem.W.Frag} {xs : List PyData} {r : R2} (h : RN2 K F Γ2 r ra rb xs) {σ : L2.St} {H : Hp} {Q : VK} (q : tN K F Γ xs Γ2 σ H Q) : tOp r (tD K F Γ ra Γ1) (tD K F Γ1 rb Γ2) σ H Q := by
  obtain ⟨G, E, k⟩ := q
  refine ⟨G, E, fun x H1 G1 s1 E1 v1 => ⟨G1, E1, fun y H2 G2 s2 E2 v2 => ?_⟩⟩
  exact h G2 H2 σ x y Q E2 (v1.mono s2.g) v2 fun p vs H3 G3 s3 E3 h1 h2 h3 h4 => k p vs H3 G3 ((s1.trans s2).trans s3) E3 (h1.back (s1.trans s2)) h2 h3 h4
theorem de_op {op : Operator} {r : R2} (ho : OpR X (binaryOp op) r) (h : RD2 X.K F Γ2 r ra rb rc) (ha : PE X a (tD X.K F Γ ra Γ1)) (hb : PE X b (tD X.K F Γ1 rb Γ2)) : PE X (.BinOp a op b pos) (tD X.K F Γ rc Γ2) :=
  pe_imp (pe_op ho ha hb) fun _ _ _ q => td_op h q
theorem dn_op {op : Operator} {xs : List PyData} {r : R2} (ho : OpR X (binaryOp op) r) (h : RN2 X.K F Γ2 r ra rb xs) (ha : PE X a (tD X.K F Γ ra Γ1)) (hb : PE X b (tD X.K F Γ1 rb Γ2)) : PE X (.BinOp a op b pos) (tN X.K F Γ xs Γ2) :=
  pe_imp (pe_op ho ha hb) fun _ _ _ q => tn_op h q
theorem de_cmp {op : CmpOp} {r : R2} (ho : OpR X (compareOp op) r) (h : RD2 X.K F Γ2 r ra rb rc) (ha : PE X a (tD X.K F Γ ra Γ1)) (hb : PE X b (tD X.K F Γ1 rb Γ2)) (hm : behindInMarks op b = false) : PE X (.Compare a [op] [b] pos) (tD X.K F Γ rc Γ2) :=
  pe_imp (pe_cmpR ho ha hb hm) fun _ _ _ q => td_op h q
theorem dt_cmp {op : CmpOp} {r : R2} {k : Bool} (ho : OpR X (compareOp op) r) (h : RD2 X.K F Γ2 r ra rb (.dat (.bool k))) (ha : PE X a (tD X.K F Γ ra Γ1)) (hb : PE X b (tD X.K F Γ1 rb Γ2)) (hm : behindInMarks op b = false) : PT X (.Compare a [op] [b] pos) (tDT X.K F Γ k Γ2) :=
  pt_imp (pt_cmpR ho ha hb hm) fun σ H Q ⟨G, E, q⟩ => by
    refine td_op h ⟨G, E, fun v H' G' s' E' v' => ⟨k, dp_bl v', q H' G' s' E'⟩⟩
section
variable {K : PySem.W.Frag}
theorem rd_I0 {g : Int → Int → Int} {i j : Int} : RD2 K F Γ (rI0 fun i j => .int (g i j)) (.dat (.int i)) (.dat (.int j)) (.dat (.int (g i j))) := fun G H σ x y Q E vx vy k =>
  ⟨i, j, dp_int vx, dp_int vy, k _ H G Step.refl E (.int _)⟩
theorem rd_I {C : Int → Int → Prop} {g : Int → Int → Int} {i j : Int} (hc : C i j) : RD2 K F Γ (rI C fun i j => .int (g i j)) (.dat (.int i)) (.dat (.int j)) (.dat (.int (g i j))) := fun G H σ x y Q E vx vy k =>
  ⟨i, j, dp_int vx, dp_int vy, hc, k _ H G Step.refl E (.int _)⟩
theorem rd_B0 {g : Int → Int → Bool} {i j : Int} : RD2 K F Γ (rI0 fun i j => .bl (g i j)) (.dat (.int i)) (.dat (.int j)) (.dat (.bool (g i j))) := fun G H σ x y Q E vx vy k =>
  ⟨i, j, dp_int vx, dp_int vy, k _ H G Step.refl E (.bl _)⟩
theorem rd_eqI {i j : Int} : RD2 K F Γ rEq (.dat (.int i)) (.dat (.int j)) (.dat (.bool (decide (i = j)))) := fun G H σ x y Q E vx vy k => by
  have e1 := dp_int vx
  have e2 := dp_int vy
  subst e1; subst e2
  refine ⟨rfl, k _ H G Step.refl E ?_⟩
  rw [dec_int, Bool.beq_eq_decide_eq]
  exact .bl _
theorem rd_neI {i j : Int} : RD2 K F Γ rNe (.dat (.int i)) (.dat (.int j)) (.dat (.bool (!decide (i = j)))) := fun G H σ x y Q E vx vy k => by
  have e1 := dp_int vx
  have e2 := dp_int vy
  subst e1; subst e2
  refine ⟨rfl, k _ H G Step.refl E ?_⟩
  rw [dec_int, Bool.beq_eq_decide_eq]
  exact .bl _
theorem rd_eqS {i j : Str} : RD2 K F Γ rEq (.dat (.str i)) (.dat (.str j)) (.dat (.bool (decide (i = j)))) := fun G H σ x y Q E vx vy k => by
  have e1 := dp_str vx
  have e2 := dp_str vy
  subst e1; subst e2
  refine ⟨rfl, k _ H G Step.refl E ?_⟩
  have : decide (V.str i = V.str j) = decide (i = j) := by
    by_cases e : i = j
    · subst e; simp
    · rw [decide_eq_false e, decide_eq_false (fun z => e (by injection z))]
  rw [this]
  exact .bl _
theorem rd_neS {i j : Str} : RD2 K F Γ rNe (.dat (.str i)) (.dat (.str j)) (.dat (.bool (!decide (i = j)))) := fun G H σ x y Q E vx vy k => by
  have e1 := dp_str vx
  have e2 := dp_str vy
  subst e1; subst e2
  refine ⟨rfl, k _ H G Step.refl E ?_⟩
  have : decide (V.str i = V.str j) = decide (i = j) := by
    by_cases e : i = j
    · subst e; simp
    · rw [decide_eq_false e, decide_eq_false (fun z => e (by injection z))]
  rw [this]
  exact .bl _
theorem rd_eqD (va : vw Γ ra = some da) (vb : vw Γ rb = some db) (sa : SeqAt.shaped da = true) (sb : SeqAt.shaped db = true) : RD2 K F Γ (rEqD K) ra rb (.dat (.bool (PyData.eqv da db))) := fun G H σ x y Q E vx vy k =>
  ⟨da, db, dq_dp _ _ (E.view vx va), dq_dp _ _ (E.view vy vb), sa, sb, k _ H G Step.refl E (.bl _)⟩
theorem rd_neD (va : vw Γ ra = some da) (vb : vw Γ rb = some db) (sa : SeqAt.shaped da = true) (sb : SeqAt.shaped db = true) : RD2 K F Γ (rNeD K) ra rb (.dat (.bool (!PyData.eqv da db))) := fun G H σ x y Q E vx vy k =>
  ⟨da, db, dq_dp _ _ (E.view vx va), dq_dp _ _ (E.view vy vb), sa, sb, k _ H G Step.refl E (.bl _)⟩
theorem dp_isNon {G : Hp} {v : V} {d : PyData} (h : Dq K G v d) : decide (v = .non) = (match d with | .none => true | _ => false) := by
  cases h <;> rfl
def isNon : PyData → Bool
  | .none => true
  | _ => false
theorem dp_isN {G : Hp} {v : V} {d : PyData} (h : Dq K G v d) : decide (v = .non) = isNon d := by
  cases h <;> rfl
theorem rd_isN (va : vw Γ ra = some da) : RD2 K F Γ (fun x y H Q => y = .non ∧ Q (.bl (decide (x = .non))) H) ra (.dat .none) (.dat (.bool (isNon da))) := fun G H σ x y Q E vx vy k => by
  refine ⟨dp_non vy, k _ H G Step.refl E ?_⟩
  rw [dp_isN (E.view vx va)]
  exact .bl _
theorem rd_notN (va : vw Γ ra = some da) : RD2 K F Γ (fun x y H Q => y = .non ∧ Q (.bl (!decide (x = .non))) H) ra (.dat .none) (.dat (.bool (!isNon da))) := fun G H σ x y Q E vx vy k => by
  refine ⟨dp_non vy, k _ H G Step.refl E ?_⟩
  rw [dp_isN (E.view vx va)]
  exact .bl _
def sqOf : PyData → Option (List PyData)
  | .list ds => some ds
  | .tuple ds => some ds
  | _ => none
theorem ixN_of {G : Hp} {vs : List V} {ds : List PyData} {i : Int} {d : PyData} (h : DqAll K G vs ds) (e : atI ds i = some d) : ∃ v, atI vs i = some v ∧ Dq K G v d := by
  unfold atI at e ⊢
  rw [dpa_len h]
  cases q : ixN ds.length i with
  | none => rw [q] at e; cases e
  | some j =>
    rw [q] at e
    exact dpa_get h e
theorem rd_ix {i : Int} {ds : List PyData} {d : PyData} (va : vw Γ ra = some da) (hs : sqOf da = some ds) (hd : atI ds i = some d) : RD2 K F Γ (rIx K) (ra) (.dat (.int i)) (.dat d) := fun G H σ x y Q E vx vy k => by
  have ey := dp_int vy
  subst ey
  -- the data of the place itself: in G where the thing is data, else of an own list
  have key : ∃ (p : Addr) (vs : List V) (v : V), x = .ref p ∧ (SqL K H p vs ∨ SqT K H p vs) ∧ atI vs i = some v ∧ Dq K G v d := by
    cases ra with
    | dat d' =>
      have : d' = da := Option.some.inj va
      subst this
      have vx : Dq K G x d' := vx
      cases vx with
      | lst q al => cases hs; obtain ⟨v, h1, h2⟩ := ixN_of al hd; exact ⟨_, _, v, rfl, .inl (.inl (rd_mono E.le (.inl q))), h1, h2⟩
      | tup q al => cases hs; obtain ⟨v, h1, h2⟩ := ixN_of al hd; exact ⟨_, _, v, rfl, .inr (sqT_mono E.le q), h1, h2⟩
      | _ => cases hs
    | al j =>
      have s := E.sl j
      have va : vwS (lk Γ j) = some da := va
      have vx : σ[j]? = some (some x) := vx
      cases q : lk Γ j with
      | no => rw [q] at va; cases va
      | dat d' =>
        rw [q] at va s
        have : d' = da := Option.some.inj va
        subst this
        obtain ⟨v', e1, hd'⟩ := s
        rw [vx] at e1
        cases e1
        clear q
        cases hd' with
        | lst q2 al => cases hs; obtain ⟨v, h1, h2⟩ := ixN_of al hd; exact ⟨_, _, v, rfl, .inl (.inl (rd_mono E.le (.inl q2))), h1, h2⟩
        | tup q2 al => cases hs; obtain ⟨v, h1, h2⟩ := ixN_of al hd; exact ⟨_, _, v, rfl, .inr (sqT_mono E.le q2), h1, h2⟩
        | _ => cases hs
      | own xs =>
        rw [q] at va s
        have : PyData.list xs = da := Option.some.inj va
        subst this
        cases hs
        obtain ⟨p, vs, e1, g, hp, ha, _⟩ := s
        rw [vx] at e1
        cases e1
        obtain ⟨v, h1, h2⟩ := ixN_of ha hd
        exact ⟨p, vs, v, rfl, .inl (SqL.of hp), h1, h2⟩
  obtain ⟨p, vs, v, rfl, hq, h1, h2⟩ := key
  rcases hq with hq | hq
  · exact .inl ⟨p, vs, i, v, rfl, rfl, hq, h1, k v H G Step.refl E h2⟩
  · exact .inr (.inl ⟨p, vs, i, v, rfl, rfl, hq, h1, k v H G Step.refl E h2⟩)
end
theorem op_mulA : OpR X (binaryOp .Mult) (rI IntMulOk fun i j => .int (i * j)) := opI fun _ _ _ _ _ _ _ hc q => PyProof.Rows.mul_int q hc
def CDivA (_ j : Int) : Prop := j ≠ 0 ∧ j.natAbs < 2 ^ 9000
theorem log2_lt9 {n : Nat} (h : n < 2 ^ 9000) : n.log2 < 9000 := PySem.Flt.log2_lt_of (by decide) h
theorem op_fdivA : OpR X (binaryOp .FloorDiv) (rI CDivA fun i j => .int (i.fdiv j)) := opI fun _ _ _ _ _ _ _ hc q => PyProof.Rows.floordiv_int hc.1 q (.inl (PyProof.noPylong_of_log2 (log2_lt9 hc.2)))
theorem de_add {i j : Int} (ha : PE X a (tD X.K F Γ (.dat (.int i)) Γ1)) (hb : PE X b (tD X.K F Γ1 (.dat (.int j)) Γ2)) : PE X (.BinOp a .Add b pos) (tD X.K F Γ (.dat (.int (i + j))) Γ2) := de_op op_add (rd_I0 (g := fun i j => i + j)) ha hb
theorem de_sub {i j : Int} (ha : PE X a (tD X.K F Γ (.dat (.int i)) Γ1)) (hb : PE X b (tD X.K F Γ1 (.dat (.int j)) Γ2)) : PE X (.BinOp a .Sub b pos) (tD X.K F Γ (.dat (.int (i - j))) Γ2) := de_op op_sub (rd_I0 (g := fun i j => i - j)) ha hb
theorem de_mul {i j : Int} (ha : PE X a (tD X.K F Γ (.dat (.int i)) Γ1)) (hb : PE X b (tD X.K F Γ1 (.dat (.int j)) Γ2)) (hc : IntMulOk i j) : PE X (.BinOp a .Mult b pos) (tD X.K F Γ (.dat (.int (i * j))) Γ2) := de_op op_mulA (rd_I (g := fun i j => i * j) hc) ha hb
theorem de_fdiv {i j : Int} (ha : PE X a (tD X.K F Γ (.dat (.int i)) Γ1)) (hb : PE X b (tD X.K F Γ1 (.dat (.int j)) Γ2)) (hc : CDivA i j) : PE X (.BinOp a .FloorDiv b pos) (tD X.K F Γ (.dat (.int (i.fdiv j))) Γ2) := de_op op_fdivA (rd_I (g := fun i j => i.fdiv j) hc) ha hb
theorem de_mod {i j : Int} (ha : PE X a (tD X.K F Γ (.dat (.int i)) Γ1)) (hb : PE X b (tD X.K F Γ1 (.dat (.int j)) Γ2)) (hc : j ≠ 0) : PE X (.BinOp a .Mod b pos) (tD X.K F Γ (.dat (.int (i.fmod j))) Γ2) := de_op op_modN (rd_I (C := fun _ j => j ≠ 0) (g := fun i j => i.fmod j) hc) ha hb
theorem de_pow {i j : Int} (ha : PE X a (tD X.K F Γ (.dat (.int i)) Γ1)) (hb : PE X b (tD X.K F Γ1 (.dat (.int j)) Γ2)) (hc : CPow i j) : PE X (.BinOp a .Pow b pos) (tD X.K F Γ (.dat (.int (i ^ j.toNat))) Γ2) := de_op op_pow (rd_I (g := fun i j => i ^ j.toNat) hc) ha hb
theorem de_neg {i : Int} (ha : PE X a (tD X.K F Γ (.dat (.int i)) Γ1)) : PE X (.UnaryOp .USub a pos) (tD X.K F Γ (.dat (.int (-i))) Γ1) :=
  pe_imp (pe_un un_neg ha) fun σ H Q ⟨G, E, k⟩ => ⟨G, E, fun x H1 G1 s1 E1 v1 => ⟨i, dp_int v1, k _ H1 G1 s1 E1 (.int _)⟩⟩
section
variable {i j : Int}
theorem de_lt (ha : PE X a (tD X.K F Γ (.dat (.int i)) Γ1)) (hb : PE X b (tD X.K F Γ1 (.dat (.int j)) Γ2)) : PE X (.Compare a [.Lt] [b] pos) (tD X.K F Γ (.dat (.bool (decide (i < j)))) Γ2) := de_cmp op_lt (rd_B0 (g := fun i j => decide (i < j))) ha hb (nomark _)
theorem de_le (ha : PE X a (tD X.K F Γ (.dat (.int i)) Γ1)) (hb : PE X b (tD X.K F Γ1 (.dat (.int j)) Γ2)) : PE X (.Compare a [.LtE] [b] pos) (tD X.K F Γ (.dat (.bool (decide (i ≤ j)))) Γ2) := de_cmp op_le (rd_B0 (g := fun i j => decide (i ≤ j))) ha hb (nomark _)
theorem de_gt (ha : PE X a (tD X.K F Γ (.dat (.int i)) Γ1)) (hb : PE X b (tD X.K F Γ1 (.dat (.int j)) Γ2)) : PE X (.Compare a [.Gt] [b] pos) (tD X.K F Γ (.dat (.bool (decide (j < i)))) Γ2) := de_cmp op_gt (rd_B0 (g := fun i j => decide (j < i))) ha hb (nomark _)
theorem de_ge (ha : PE X a (tD X.K F Γ (.dat (.int i)) Γ1)) (hb : PE X b (tD X.K F Γ1 (.dat (.int j)) Γ2)) : PE X (.Compare a [.GtE] [b] pos) (tD X.K F Γ (.dat (.bool (decide (j ≤ i)))) Γ2) := de_cmp op_ge (rd_B0 (g := fun i j => decide (j ≤ i))) ha hb (nomark _)
theorem de_eqI (ha : PE X a (tD X.K F Γ (.dat (.int i)) Γ1)) (hb : PE X b (tD X.K F Γ1 (.dat (.int j)) Γ2)) : PE X (.Compare a [.Eq] [b] pos) (tD X.K F Γ (.dat (.bool (decide (i = j)))) Γ2) := de_cmp op_eq rd_eqI ha hb (nomark _)
theorem de_neI (ha : PE X a (tD X.K F Γ (.dat (.int i)) Γ1)) (hb : PE X b (tD X.K F Γ1 (.dat (.int j)) Γ2)) : PE X (.Compare a [.NotEq] [b] pos) (tD X.K F Γ (.dat (.bool (!decide (i = j)))) Γ2) := de_cmp op_ne rd_neI ha hb (nomark _)
theorem dt_lt (ha : PE X a (tD X.K F Γ (.dat (.int i)) Γ1)) (hb : PE X b (tD X.K F Γ1 (.dat (.int j)) Γ2)) : PT X (.Compare a [.Lt] [b] pos) (tDT X.K F Γ (decide (i < j)) Γ2) := dt_cmp op_lt (rd_B0 (g := fun i j => decide (i < j))) ha hb (nomark _)
theorem dt_le (ha : PE X a (tD X.K F Γ (.dat (.int i)) Γ1)) (hb : PE X b (tD X.K F Γ1 (.dat (.int j)) Γ2)) : PT X (.Compare a [.LtE] [b] pos) (tDT X.K F Γ (decide (i ≤ j)) Γ2) := dt_cmp op_le (rd_B0 (g := fun i j => decide (i ≤ j))) ha hb (nomark _)
theorem dt_gt (ha : PE X a (tD X.K F Γ (.dat (.int i)) Γ1)) (hb : PE X b (tD X.K F Γ1 (.dat (.int j)) Γ2)) : PT X (.Compare a [.Gt] [b] pos) (tDT X.K F Γ (decide (j < i)) Γ2) := dt_cmp op_gt (rd_B0 (g := fun i j => decide (j < i))) ha hb (nomark _)
theorem dt_ge (ha : PE X a (tD X.K F Γ (.dat (.int i)) Γ1)) (hb : PE X b (tD X.K F Γ1 (.dat (.int j)) Γ2)) : PT X (.Compare a [.GtE] [b] pos) (tDT X.K F Γ (decide (j ≤ i)) Γ2) := dt_cmp op_ge (rd_B0 (g := fun i j => decide (j ≤ i))) ha hb (nomark _)
theorem dt_eqI (ha : PE X a (tD X.K F Γ (.dat (.int i)) Γ1)) (hb : PE X b (tD X.K F Γ1 (.dat (.int j)) Γ2)) : PT X (.Compare a [.Eq] [b] pos) (tDT X.K F Γ (decide (i = j)) Γ2) := dt_cmp op_eq rd_eqI ha hb (nomark _)
theorem dt_neI (ha : PE X a (tD X.K F Γ (.dat (.int i)) Γ1)) (hb : PE X b (tD X.K F Γ1 (.dat (.int j)) Γ2)) : PT X (.Compare a [.NotEq] [b] pos) (tDT X.K F Γ (!decide (i = j)) Γ2) := dt_cmp op_ne rd_neI ha hb (nomark _)
theorem de_eqS {i j : Str} (ha : PE X a (tD X.K F Γ (.dat (.str i)) Γ1)) (hb : PE X b (tD X.K F Γ1 (.dat (.str j)) Γ2)) : PE X (.Compare a [.Eq] [b] pos) (tD X.K F Γ (.dat (.bool (decide (i = j)))) Γ2) := de_cmp op_eq rd_eqS ha hb (nomark _)
theorem de_neS {i j : Str} (ha : PE X a (tD X.K F Γ (.dat (.str i)) Γ1)) (hb : PE X b (tD X.K F Γ1 (.dat (.str j)) Γ2)) : PE X (.Compare a [.NotEq] [b] pos) (tD X.K F Γ (.dat (.bool (!decide (i = j)))) Γ2) := de_cmp op_ne rd_neS ha hb (nomark _)
theorem dt_eqS {i j : Str} (ha : PE X a (tD X.K F Γ (.dat (.str i)) Γ1)) (hb : PE X b (tD X.K F Γ1 (.dat (.str j)) Γ2)) : PT X (.Compare a [.Eq] [b] pos) (tDT X.K F Γ (decide (i = j)) Γ2) := dt_cmp op_eq rd_eqS ha hb (nomark _)
theorem dt_neS {i j : Str} (ha : PE X a (tD X.K F Γ (.dat (.str i)) Γ1)) (hb : PE X b (tD X.K F Γ1 (.dat (.str j)) Γ2)) : PT X (.Compare a [.NotEq] [b] pos) (tDT X.K F Γ (!decide (i = j)) Γ2) := dt_cmp op_ne rd_neS ha hb (nomark _)
end
section
variable {k : Nat}
theorem de_eqD (hr : Room k X.A) (ha : PE X a (tD X.K F Γ ra Γ1)) (hb : PE X b (tD X.K F Γ1 rb Γ2)) (sa : SeqAt.shaped da = true) (sb : SeqAt.shaped db = true) (va : vw Γ2 ra = some da := by rfl) (vb : vw Γ2 rb = some db := by rfl) : PE X (.Compare a [.Eq] [b] pos) (tD X.K F Γ (.dat (.bool (PyData.eqv da db))) Γ2) := de_cmp (op_eqD hr.units) (rd_eqD va vb sa sb) ha hb (nomark _)
theorem de_neD (hr : Room k X.A) (ha : PE X a (tD X.K F Γ ra Γ1)) (hb : PE X b (tD X.K F Γ1 rb Γ2)) (sa : SeqAt.shaped da = true) (sb : SeqAt.shaped db = true) (va : vw Γ2 ra = some da := by rfl) (vb : vw Γ2 rb = some db := by rfl) : PE X (.Compare a [.NotEq] [b] pos) (tD X.K F Γ (.dat (.bool (!PyData.eqv da db))) Γ2) := de_cmp (op_neD hr.units) (rd_neD va vb sa sb) ha hb (nomark _)
theorem dt_eqD (hr : Room k X.A) (ha : PE X a (tD X.K F Γ ra Γ1)) (hb : PE X b (tD X.K F Γ1 rb Γ2)) (sa : SeqAt.shaped da = true) (sb : SeqAt.shaped db = true) (va : vw Γ2 ra = some da := by rfl) (vb : vw Γ2 rb = some db := by rfl) : PT X (.Compare a [.Eq] [b] pos) (tDT X.K F Γ (PyData.eqv da db) Γ2) := dt_cmp (op_eqD hr.units) (rd_eqD va vb sa sb) ha hb (nomark _)
theorem dt_neD (hr : Room k X.A) (ha : PE X a (tD X.K F Γ ra Γ1)) (hb : PE X b (tD X.K F Γ1 rb Γ2)) (sa : SeqAt.shaped da = true) (sb : SeqAt.shaped db = true) (va : vw Γ2 ra = some da := by rfl) (vb : vw Γ2 rb = some db := by rfl) : PT X (.Compare a [.NotEq] [b] pos) (tDT X.K F Γ (!PyData.eqv da db) Γ2) := dt_cmp (op_neD hr.units) (rd_neD va vb sa sb) ha hb (nomark _)
end
theorem de_isN (ha : PE X a (tD X.K F Γ ra Γ1)) (va : vw Γ1 ra = some da := by rfl) {j : Nat} {pos' : Pos} : PE X (.Compare a [.Is] [.Constant .none j pos'] pos) (tD X.K F Γ (.dat (.bool (isNon da))) Γ1) := de_cmp op_isN (rd_isN va) ha de_non (nomark _)
theorem de_notN (ha : PE X a (tD X.K F Γ ra Γ1)) (va : vw Γ1 ra = some da := by rfl) {j : Nat} {pos' : Pos} : PE X (.Compare a [.IsNot] [.Constant .none j pos'] pos) (tD X.K F Γ (.dat (.bool (!isNon da))) Γ1) := de_cmp op_notN (rd_notN va) ha de_non (nomark _)
theorem dt_isN (ha : PE X a (tD X.K F Γ ra Γ1)) (va : vw Γ1 ra = some da := by rfl) {j : Nat} {pos' : Pos} : PT X (.Compare a [.Is] [.Constant .none j pos'] pos) (tDT X.K F Γ (isNon da) Γ1) := dt_cmp op_isN (rd_isN va) ha de_non (nomark _)
theorem dt_notN (ha : PE X a (tD X.K F Γ ra Γ1)) (va : vw Γ1 ra = some da := by rfl) {j : Nat} {pos' : Pos} : PT X (.Compare a [.IsNot] [.Constant .none j pos'] pos) (tDT X.K F Γ (!isNon da) Γ1) := dt_cmp op_notN (rd_notN va) ha de_non (nomark _)
theorem de_ix {i : Int} {ds : List PyData} {d : PyData} (ha : PE X a (tD X.K F Γ ra Γ1)) (hb : PE X b (tD X.K F Γ1 (.dat (.int i)) Γ2)) (hd : atI ds i = some d) (va : vw Γ2 ra = some da := by rfl) (hs : sqOf da = some ds := by rfl) (hp : PlainIx b := by exact fun _ _ => rfl) :
    PE X (.Subscript a b pos) (tD X.K F Γ (.dat d) Γ2) := pe_imp (pe_ix ix_seq ha hb hp) fun _ _ _ q => td_op (rd_ix va hs hd) q
theorem dt_b {k : Bool} (h : PE X e (tD X.K F Γ (.dat (.bool k)) Γ1)) (he : ∀ whole, isTrue e X.env whole = (do let v ← whole; standAt e.pos; holding [v] (truthy v)) := by intro _; rfl) : PT X e (tDT X.K F Γ k Γ1) :=
  pt_imp (pt_val h he) fun σ H Q ⟨G, E, q⟩ => ⟨G, E, fun v H1 G1 s1 E1 v1 => ⟨k, dp_bl v1, q H1 G1 s1 E1⟩⟩
theorem dt_not {k : Bool} (h : PT X e (tDT X.K F Γ k Γ1)) : PT X (.UnaryOp .Not e pos) (tDT X.K F Γ (!k) Γ1) := pt_imp (pt_not h) fun σ H Q ⟨G, E, q⟩ => ⟨G, E, q⟩
theorem dw_and1 {k : Bool} (h : PT X a (tDT X.K F Γ k Γ1)) : PW X (.BoolOp .And [a] pos) (tDT X.K F Γ k Γ1) := pw_and1 h
theorem dw_or1 {k : Bool} (h : PT X a (tDT X.K F Γ k Γ1)) : PW X (.BoolOp .Or [a] pos) (tDT X.K F Γ k Γ1) := pw_or1 h
theorem dw_and {k l : Bool} {rest : List Expr} (h : PT X a (tDT X.K F Γ k Γ)) (h2 : k = true → PW X (.BoolOp .And (b :: rest) pos) (tDT X.K F Γ l Γ)) : PW X (.BoolOp .And (a :: b :: rest) pos) (tDT X.K F Γ (k && l) Γ) := by
  cases k with
  | true => exact pw_imp (pw_and h (h2 rfl)) fun σ H Q ⟨G, E, q⟩ => ⟨G, E, fun H1 G1 s1 E1 => ⟨G1, E1, fun H2 G2 s2 E2 => q H2 G2 (s1.trans s2) E2⟩⟩
  | false =>
    refine ⟨fun wh pins s σ H Q I h' => ?_⟩
    refine PyProof.Rows.isTrue_and (thn (h.run pins s σ H (fun c H1 => c = false ∧ Q false H1) I ?_) fun c s1 ⟨H1, I1, q1, q2⟩ => ?_)
    · obtain ⟨G, E, q⟩ := h'
      exact ⟨G, E, fun H1 G1 s1 E1 => ⟨rfl, q H1 G1 s1 E1⟩⟩
    · subst q1
      exact ⟨H1, I1, q2⟩
theorem dw_or {k l : Bool} {rest : List Expr} (h : PT X a (tDT X.K F Γ k Γ)) (h2 : k = false → PW X (.BoolOp .Or (b :: rest) pos) (tDT X.K F Γ l Γ)) : PW X (.BoolOp .Or (a :: b :: rest) pos) (tDT X.K F Γ (k || l) Γ) := by
  cases k with
  | false => exact pw_imp (pw_or h (h2 rfl)) fun σ H Q ⟨G, E, q⟩ => ⟨G, E, fun H1 G1 s1 E1 => ⟨G1, E1, fun H2 G2 s2 E2 => q H2 G2 (s1.trans s2) E2⟩⟩
  | true =>
    refine ⟨fun wh pins s σ H Q I h' => ?_⟩
    refine PyProof.Rows.isTrue_or (thn (h.run pins s σ H (fun c H1 => c = true ∧ Q true H1) I ?_) fun c s1 ⟨H1, I1, q1, q2⟩ => ?_)
    · obtain ⟨G, E, q⟩ := h'
      exact ⟨G, E, fun H1 G1 s1 E1 => ⟨rfl, q H1 G1 s1 E1⟩⟩
    · subst q1
      exact ⟨H1, I1, q2⟩
theorem de_not {k : Bool} (h : PE X e (tD X.K F Γ (.dat (.bool k)) Γ1)) : PE X (.UnaryOp .Not e pos) (tD X.K F Γ (.dat (.bool (!k))) Γ1) :=
  pe_imp (pe_not h) fun σ H Q ⟨G, E, q⟩ => ⟨G, E, fun v H1 G1 s1 E1 v1 => ⟨k, dp_bl v1, q _ H1 G1 s1 E1 (.bl _)⟩⟩
theorem de_one {op} {r : Rv} (h : PE X a (tD X.K F Γ r Γ1)) : PE X (.BoolOp op [a] pos) (tD X.K F Γ r Γ1) := pe_one h
theorem de_and {k l : Bool} {rest : List Expr} (h : PE X a (tD X.K F Γ (.dat (.bool k)) Γ)) (h2 : k = true → PE X (.BoolOp .And (b :: rest) pos) (tD X.K F Γ (.dat (.bool l)) Γ)) : PE X (.BoolOp .And (a :: b :: rest) pos) (tD X.K F Γ (.dat (.bool (k && l))) Γ) := by
  cases k with
  | true => exact pe_imp (pe_and h (h2 rfl)) fun σ H Q ⟨G, E, q⟩ => ⟨G, E, fun v H1 G1 s1 E1 v1 => ⟨true, dp_bl v1, by
      rw [if_pos rfl]
      exact ⟨G1, E1, fun v H2 G2 s2 E2 v2 => q v H2 G2 (s1.trans s2) E2 v2⟩⟩⟩
  | false =>
    refine ⟨fun pins s σ H Q I h' => ?_⟩
    refine PyProof.Rows.BoolOp_and (thn (h.run pins s σ H (fun v H1 => v = .bl false ∧ Q (.bl false) H1) I ?_) fun v s1 ⟨x, H1, I1, r1, q1, q2⟩ => ?_)
    · obtain ⟨G, E, q⟩ := h'
      exact ⟨G, E, fun v H1 G1 s1 E1 v1 => ⟨dp_bl v1, q _ H1 G1 s1 E1 (.bl _)⟩⟩
    · subst q1
      cases r1
      exact wpAny_truthy_bool ⟨.bl false, H1, I1, rfl, q2⟩
theorem de_or {k l : Bool} {rest : List Expr} (h : PE X a (tD X.K F Γ (.dat (.bool k)) Γ)) (h2 : k = false → PE X (.BoolOp .Or (b :: rest) pos) (tD X.K F Γ (.dat (.bool l)) Γ)) : PE X (.BoolOp .Or (a :: b :: rest) pos) (tD X.K F Γ (.dat (.bool (k || l))) Γ) := by
  cases k with
  | false => exact pe_imp (pe_or h (h2 rfl)) fun σ H Q ⟨G, E, q⟩ => ⟨G, E, fun v H1 G1 s1 E1 v1 => ⟨false, dp_bl v1, by
      rw [if_neg Bool.false_ne_true]
      exact ⟨G1, E1, fun v H2 G2 s2 E2 v2 => q v H2 G2 (s1.trans s2) E2 v2⟩⟩⟩
  | true =>
    refine ⟨fun pins s σ H Q I h' => ?_⟩
    refine PyProof.Rows.BoolOp_or (thn (h.run pins s σ H (fun v H1 => v = .bl true ∧ Q (.bl true) H1) I ?_) fun v s1 ⟨x, H1, I1, r1, q1, q2⟩ => ?_)
    · obtain ⟨G, E, q⟩ := h'
      exact ⟨G, E, fun v H1 G1 s1 E1 v1 => ⟨dp_bl v1, q _ H1 G1 s1 E1 (.bl _)⟩⟩
    · subst q1
      cases r1
      exact wpAny_truthy_bool ⟨.bl true, H1, I1, rfl, q2⟩
theorem de_if {k : Bool} {r : Rv} (hc : PT X c (tDT X.K F Γ k Γ1)) (h1 : k = true → PE X a (tD X.K F Γ1 r Γ2)) (h2 : k = false → PE X b (tD X.K F Γ1 r Γ2)) : PE X (.IfExp c a b pos) (tD X.K F Γ r Γ2) := by
  refine ⟨fun pins s σ H Q I h => ?_⟩
  obtain ⟨G, E, q⟩ := h
  refine wpAny_IfExp (thn (hc.run pins s σ H (fun d H1 => d = k ∧ ∃ G1, Step σ Γ Γ1 G H G1 H1 ∧ En X.K F G1 σ H1 Γ1) I ⟨G, E, fun H1 G1 s1 E1 => ⟨rfl, G1, s1, E1⟩⟩) fun d s1 ⟨H1, I1, e1, G1, st1, E1⟩ => ?_)
  subst e1
  cases d with
  | true => exact (h1 rfl).run pins s1 σ H1 Q I1 ⟨G1, E1, fun v H2 G2 s2 E2 v2 => q v H2 G2 (st1.trans s2) E2 v2⟩
  | false => exact (h2 rfl).run pins s1 σ H1 Q I1 ⟨G1, E1, fun v H2 G2 s2 E2 v2 => q v H2 G2 (st1.trans s2) E2 v2⟩
theorem da_nil : PA X [] (tDA X.K F Γ [] Γ) := pa_imp pa_nil fun σ H Q ⟨G, E, q⟩ => q [] H G Step.refl E .nil
theorem paired_mono {σ : L2.St} {K : PySem.W.Frag} {G G1 : Hp} (e : Same G G1) : ∀ {vs : List V} {rs : List Rv}, Paired (fun v r => VR K G σ v r) vs rs → Paired (fun v r => VR K G1 σ v r) vs rs
  | _, _, .nil => .nil
  | _, _, .cons q r => .cons (VR.mono e q) (paired_mono e r)
theorem da_cons {r : Rv} {rs : List Rv} {es : List Expr} (h : PE X a (tD X.K F Γ r Γ1)) (hr : PA X es (tDA X.K F Γ1 rs Γ2)) (hs : starEach (a :: es) X.env = (false, eval a X.env) :: starEach es X.env := by rfl) : PA X (a :: es) (tDA X.K F Γ (r :: rs) Γ2) :=
  pa_imp (pa_cons h hr hs) fun σ H Q ⟨G, E, q⟩ => ⟨G, E, fun v H1 G1 s1 E1 v1 => ⟨G1, E1, fun vs H2 G2 s2 E2 v2 => q (v :: vs) H2 G2 (s1.trans s2) E2 (.cons (v1.mono s2.g) v2)⟩⟩
def datS : List Rv → Option (List PyData)
  | [] => some []
  | .dat d :: r => (datS r).map (d :: ·)
  | .al _ :: _ => none
theorem datS_dp {K : PySem.W.Frag} {G : Hp} {σ : L2.St} : ∀ {vs : List V} {rs : List Rv} {ds : List PyData}, Paired (fun v r => VR K G σ v r) vs rs → datS rs = some ds → DqAll K G vs ds
  | _, _, _, .nil, e => by cases e; exact .nil
  | _, .dat d :: r, _, .cons q t, e => by
    unfold datS at e
    cases z : datS r with
    | none => rw [z] at e; cases e
    | some es =>
      rw [z] at e
      cases e
      exact .cons q (datS_dp t z)
  | _, .al _ :: _, _, .cons _ _, e => by cases e
theorem de_tup {rs : List Rv} {ds : List PyData} {es : List Expr} {x1} (h : PA X es (tDA X.K F Γ rs Γ1)) (hl : ds.length ≤ 100000) (hd : datS rs = some ds := by rfl) : PE X (.Tuple es x1 pos) (tD X.K F Γ (.dat (.tuple ds)) Γ1) :=
  pe_imp (pe_tup h) fun σ H Q ⟨G, E, q⟩ => ⟨G, E, fun vs H1 G1 s1 E1 v1 => by
    have a := datS_dp v1 hd
    refine ⟨by rw [dpa_len a]; exact Nat.le_trans hl (by decide), fun p hp => ?_⟩
    have g := (E1.no hp).2.2
    exact q _ _ _ (s1.trans (Step.newDat hp g)) (E1.newDat hp) (.tup (SqT.of upd_same) (dpa_mono (same_upd g) _ _ a))⟩
theorem dn_lst {rs : List Rv} {ds : List PyData} {es : List Expr} (h : PA X es (tDA X.K F Γ rs Γ1)) (hl : ds.length ≤ 100000) (hd : datS rs = some ds := by rfl) : PE X (.List es pos) (tN X.K F Γ ds Γ1) :=
  pe_imp (pe_lst h) fun σ H Q ⟨G, E, q⟩ => ⟨G, E, fun vs H1 G1 s1 E1 v1 => by
    have a := datS_dp v1 hd
    refine ⟨by rw [dpa_len a]; exact Nat.le_trans hl (by decide), fun p hp => ?_⟩
    exact q p vs _ G1 (s1.trans (Step.newRaw hp)) (E1.newRaw hp) (fre_of s1 E1 hp) (E1.no hp).2.2 upd_same a⟩
theorem own_ne {K : PySem.W.Frag} {G G' H H' : Hp} {σ : L2.St} (s : Step σ Γ Γ1 G H G' H') (E : En K F G σ H Γ) {p : Addr} (h : Nl H p) : ¬ Own σ Γ1 p := fun z => by
  obtain ⟨_, vs, e⟩ := E.own (s.o p z)
  exact h vs e
theorem de_fz {xs : List PyData} (h : PE X e (tN X.K F Γ xs Γ1)) : PE X e (tD X.K F Γ (.dat (.list xs)) Γ1) :=
  pe_imp h fun σ H Q ⟨G, E, q⟩ => ⟨G, E, fun p vs H1 G1 s1 E1 hp g hl a => by
    have no := own_ne s1 E hp.1
    have sg : Same G1 (upd G1 p (.lst vs)) := same_upd g
    refine q _ H1 (upd G1 p (.lst vs)) ⟨fun x o z => sg x o (s1.g x o z), fun x o z => ?_, s1.k, s1.o, s1.s⟩ (E1.freeze hl g no hp.2) (.lst upd_same (dpa_mono sg _ _ a))
    by_cases w : x = p
    · subst w; exact .inr hp.1
    · rw [upd_ne w] at z; exact s1.f x o z⟩
end
end AM

set_option Elab.async false
set_option linter.all false
set_option maxRecDepth 100000
set_option maxHeartbeats 2000000
namespace AM
open PySem PySem.Spec PyProof.Rows L2

inductive Out where
  | nx (Γ : List Sl)
  | rt (d : PyData) (Γ : List Sl)
  | bk (Γ : List Sl)
  | ct (Γ : List Sl)
  | ex (c : Addr)
def tS (K : PySem.W.Frag) (F : Fx) (W : WX) (Γ : List Sl) (P : Out → Prop) : TS := fun D σ H => ∃ G, En K F G σ H Γ ∧
  (∀ Γ' σ' H' G', P (.nx Γ') → Same G G' → En K F G' σ' H' Γ' → D.nx σ' H') ∧
  (∀ d Γ' v σ' H' G', P (.rt d Γ') → Same G G' → En K F G' σ' H' Γ' → Dq K G' v d → D.rt v H') ∧
  (∀ Γ' σ' H' G', P (.bk Γ') → Same G G' → En K F G' σ' H' Γ' → D.bk σ' H') ∧
  (∀ Γ' σ' H' G', P (.ct Γ') → Same G G' → En K F G' σ' H' Γ' → D.ct σ' H') ∧
  (∀ c Γ' σ' H' G', P (.ex c) → Same G G' → En K F G' σ' H' Γ' → W (.ref c) none σ' H')
def thn' (X : Cx) (F : Fx) (W : WX) (rest : List Stmt) (P : Out → Prop) : Out → Prop
  | .nx Γ => PSs X rest (tS X.K F W Γ P)
  | o => P o
section
variable {X : Cx} {F : Fx} {W : WX} {Γ Γ1 Γ2 : List Sl} {P P' : Out → Prop} {rest body orelse : List Stmt} {e a b c : Expr} {pos pos' : Pos} {d : PyData} {xs : List PyData}
theorem Same.r {H : Hp} : Same H H := fun _ _ h => h
theorem ds_nil (h : P (.nx Γ)) : PSs X [] (tS X.K F W Γ P) := pss_imp pss_nil fun D σ H ⟨G, E, q, _⟩ => q Γ σ H G h Same.r E
theorem ds_seq {s : Stmt} (h : PS X s (tS X.K F W Γ (thn' X F W rest P))) : PSs X (s :: rest) (tS X.K F W Γ P) := by
  have hr : PSs X rest (fun D σ H => ∃ Γ', PSs X rest (tS X.K F W Γ' P) ∧ tS X.K F W Γ' P D σ H) :=
    ⟨fun pins s σ H D I ⟨Γ', p, q⟩ => p.run pins s σ H D I q⟩
  refine pss_imp (pss_cons h hr) fun D σ H ⟨G, E, q1, q2, q3, q4, q5⟩ => ⟨G, E, fun Γ' σ' H' G' p g E' => ⟨Γ', p, G', E', ?_, ?_, ?_, ?_, ?_⟩, q2, q3, q4, q5⟩
  · exact fun Γ'' σ'' H'' G'' p' g' E'' => q1 Γ'' σ'' H'' G'' p' (g.trans g') E''
  · exact fun d Γ'' v σ'' H'' G'' p' g' E'' => q2 d Γ'' v σ'' H'' G'' p' (g.trans g') E''
  · exact fun Γ'' σ'' H'' G'' p' g' E'' => q3 Γ'' σ'' H'' G'' p' (g.trans g') E''
  · exact fun Γ'' σ'' H'' G'' p' g' E'' => q4 Γ'' σ'' H'' G'' p' (g.trans g') E''
  · exact fun c Γ'' σ'' H'' G'' p' g' E'' => q5 c Γ'' σ'' H'' G'' p' (g.trans g') E''
theorem ds_imp {s : List Stmt} (h : PSs X s (tS X.K F W Γ P)) (i : ∀ o, P o → P' o) : PSs X s (tS X.K F W Γ P') :=
  pss_imp h fun D σ H ⟨G, E, q1, q2, q3, q4, q5⟩ => ⟨G, E, fun Γ' σ' H' G' p => q1 Γ' σ' H' G' (i _ p), fun d Γ' v σ' H' G' p => q2 d Γ' v σ' H' G' (i _ p), fun Γ' σ' H' G' p => q3 Γ' σ' H' G' (i _ p), fun Γ' σ' H' G' p => q4 Γ' σ' H' G' (i _ p), fun c Γ' σ' H' G' p => q5 c Γ' σ' H' G' (i _ p)⟩
theorem ds_set (i : Nat) {x : Str} (he : PE X e (tD X.K F Γ (.dat d) Γ1)) (hr : PSs X rest (tS X.K F W (st Γ1 i (.dat d)) P)) (hN : X.N.Nodup) (hi : X.N[i]? = some x := by rfl) (hx : Loc X.env.scope x := by first | exact Or.inl rfl | exact Or.inr rfl) (hl : inb Γ1 i = true := by rfl) (hb : pf F i = true := by rfl)
    (hs : swapsWith e (some (.Name x pos')) pos.line X.env = pure false := by rfl) (hf : X.fn x = true ∨ X.env.scope.names.lookup x = some .local := by first | exact .inl rfl | exact .inr rfl | assumption) :
    PSs X (.Assign [.Name x pos'] e pos :: rest) (tS X.K F W Γ P) :=
  ds_seq (ps_imp (ps_set hN hi hx he hs hf) fun D σ H ⟨G, E, q, _⟩ => ⟨G, E, fun v H1 G1 s1 E1 v1 => q (st Γ1 i (.dat d)) _ H1 G1 hr s1.g (E1.setDat v1 (inb_lt hl) hb)⟩)
theorem ds_setN (i : Nat) {x : Str} (he : PE X e (tN X.K F Γ xs Γ1)) (hr : PSs X rest (tS X.K F W (st Γ1 i (.own xs)) P)) (hN : X.N.Nodup) (hi : X.N[i]? = some x := by rfl) (hx : Loc X.env.scope x := by first | exact Or.inl rfl | exact Or.inr rfl) (hl : inb Γ1 i = true := by rfl) (hb : pf F i = true := by rfl)
    (hs : swapsWith e (some (.Name x pos')) pos.line X.env = pure false := by rfl) (hf : X.fn x = true ∨ X.env.scope.names.lookup x = some .local := by first | exact .inl rfl | exact .inr rfl | assumption) :
    PSs X (.Assign [.Name x pos'] e pos :: rest) (tS X.K F W Γ P) :=
  ds_seq (ps_imp (ps_set hN hi hx he hs hf) fun D σ H ⟨G, E, q, _⟩ => ⟨G, E, fun p vs H1 G1 s1 E1 hp g hl' a => q (st Γ1 i (.own xs)) _ H1 G1 hr s1.g (E1.setOwn (inb_lt hl) hl' g (own_ne s1 E hp.1) hp.2 a hb)⟩)
theorem ds_ret (he : PE X e (tD X.K F Γ (.dat d) Γ1)) (hp : P (.rt d Γ1)) : PSs X (.Return (some e) pos :: rest) (tS X.K F W Γ P) :=
  ds_seq (ps_imp (ps_ret he) fun D σ H ⟨G, E, _, q, _⟩ => ⟨G, E, fun v H1 G1 s1 E1 v1 => q d Γ1 v σ H1 G1 hp s1.g E1 v1⟩)
theorem ds_retN (hp : P (.rt .none Γ)) : PSs X (.Return none pos :: rest) (tS X.K F W Γ P) :=
  ds_seq (ps_imp ps_retN fun D σ H ⟨G, E, _, q, _⟩ => q .none Γ .non σ H G hp Same.r E .non)
theorem En.thaw {K : PySem.W.Frag} {G H : Hp} {σ : L2.St} (E : En K F G σ H Γ) {i : Nat} (h : lk Γ i = .own xs) (hb : pf F i = true) : ∃ G', Same G G' ∧ En K F G' σ H (st Γ i (.dat (.list xs))) := by
  have hi : i < Γ.length := by
    apply Classical.byContradiction
    intro z
    rw [lk_big _ _ (by omega)] at h
    cases h
  have s := E.sl i
  rw [h] at s
  obtain ⟨p, vs, e1, g, hp, ha, hm⟩ := s
  have h0 : F.H0 p = none := hm.resolve_left fun z => by
    rcases z with ⟨j, hj⟩ | z
    · obtain ⟨e2, ys, e3⟩ := E.pin _ hj
      exact pf_ne hb _ hj (E.nd j i p ys xs e3 h e2 e1)
    · exact tabs_ne E.tab hp z
  have E1 := E.drop i hb
  have no : ¬ Own σ (st Γ i .no) p := fun ⟨j, ys, q1, q2⟩ => by
    by_cases w : i = j
    · subst w; rw [lk_st_same _ _ _ hi] at q1; cases q1
    · rw [lk_st_ne _ _ _ _ w] at q1
      exact w (E.nd i j p xs ys h q1 e1 q2)
  have E2 := E1.freeze hp g no h0
  have sg : Same G (upd G p (.lst vs)) := same_upd g
  refine ⟨upd G p (.lst vs), sg, ?_⟩
  have E3 := E2.setDat (i := i) (v := .ref p) (d := .list xs) (.lst upd_same (dpa_mono sg _ _ ha)) (by rw [st_length]; exact hi) hb
  have e2 : σ.set i (some (.ref p)) = σ := by
    apply List.ext_getElem?
    intro j
    by_cases w : i = j
    · subst w; rw [List.getElem?_set_self (by rw [E.len]; exact hi)]; exact e1.symm
    · rw [List.getElem?_set_ne w]
  have e3 : st (st Γ i .no) i (.dat (.list xs)) = st Γ i (.dat (.list xs)) := by
    clear E E1 E2 E3 no h hp g ha hm h0 e1 e2 sg hb
    induction Γ generalizing i with
    | nil => rfl
    | cons s r ih =>
      cases i with
      | zero => rfl
      | succ n => simp only [st]; rw [ih (Nat.lt_of_succ_lt_succ hi)]
  rw [e2, e3] at E3
  exact E3
theorem ds_fz (i : Nat) (h : PSs X rest (tS X.K F W (st Γ i (.dat (.list xs))) P)) (hl : lk Γ i = .own xs := by rfl) (hb : pf F i = true := by rfl) : PSs X rest (tS X.K F W Γ P) :=
  pss_imp h fun D σ H ⟨G, E, q1, q2, q3, q4, q5⟩ => by
    obtain ⟨G', sg, E'⟩ := E.thaw hl hb
    exact ⟨G', E', fun Γ' σ' H' G' p g => q1 Γ' σ' H' G' p (sg.trans g), fun d Γ' v σ' H' G' p g => q2 d Γ' v σ' H' G' p (sg.trans g), fun Γ' σ' H' G' p g => q3 Γ' σ' H' G' p (sg.trans g), fun Γ' σ' H' G' p g => q4 Γ' σ' H' G' p (sg.trans g), fun c Γ' σ' H' G' p g => q5 c Γ' σ' H' G' p (sg.trans g)⟩
theorem ds_drop (i : Nat) (h : PSs X rest (tS X.K F W (st Γ i .no) P)) (hb : pf F i = true := by rfl) : PSs X rest (tS X.K F W Γ P) :=
  pss_imp h fun D σ H ⟨G, E, q⟩ => ⟨G, E.drop i hb, q⟩
theorem ds_if {k : Bool} (hc : PT X c (tDT X.K F Γ k Γ1)) (h1 : k = true → PSs X body (tS X.K F W Γ1 (thn' X F W rest P))) (h2 : k = false → PSs X orelse (tS X.K F W Γ1 (thn' X F W rest P))) : PSs X (.If c body orelse pos :: rest) (tS X.K F W Γ P) := by
  refine ds_seq ?_
  have w1 : PSs X body (fun D σ H => k = true ∧ tS X.K F W Γ1 (thn' X F W rest P) D σ H) := ⟨fun pins s σ H D I ⟨e, q⟩ => (h1 e).run pins s σ H D I q⟩
  have w2 : PSs X orelse (fun D σ H => k = false ∧ tS X.K F W Γ1 (thn' X F W rest P) D σ H) := ⟨fun pins s σ H D I ⟨e, q⟩ => (h2 e).run pins s σ H D I q⟩
  refine ps_imp (ps_if hc w1 w2) fun D σ H ⟨G, E, q1, q2, q3, q4, q5⟩ => ⟨G, E, fun H1 G1 s1 E1 => ?_⟩
  have fin : tS X.K F W Γ1 (thn' X F W rest P) D σ H1 := ⟨G1, E1, fun Γ' σ' H' G' p g => q1 Γ' σ' H' G' p (s1.g.trans g), fun d Γ' v σ' H' G' p g => q2 d Γ' v σ' H' G' p (s1.g.trans g), fun Γ' σ' H' G' p g => q3 Γ' σ' H' G' p (s1.g.trans g), fun Γ' σ' H' G' p g => q4 Γ' σ' H' G' p (s1.g.trans g), fun c Γ' σ' H' G' p g => q5 c Γ' σ' H' G' p (s1.g.trans g)⟩
  cases k with
  | true => exact ⟨rfl, fin⟩
  | false => exact ⟨rfl, fin⟩
theorem ds_expr {r : Rv} (he : PE X e (tD X.K F Γ r Γ1)) (hr : PSs X rest (tS X.K F W Γ1 P)) (hs : swapsWith e none pos.line X.env = pure false := by rfl) : PSs X (.Expr e pos :: rest) (tS X.K F W Γ P) :=
  ds_seq (ps_imp (ps_expr he hs) fun D σ H ⟨G, E, q, _⟩ => ⟨G, E, fun v H1 G1 s1 E1 v1 => q Γ1 σ H1 G1 hr s1.g E1⟩)
theorem ds_par (i j : Nat) {x y : Str} {d1 d2 : PyData} {px py pt : Pos} {kt k2 pt2} (ha : PA X [a, b] (tDA X.K F Γ [.dat d1, .dat d2] Γ1)) (hr : PSs X rest (tS X.K F W (st (st Γ1 i (.dat d1)) j (.dat d2)) P)) (hN : X.N.Nodup) (hi : X.N[i]? = some x := by rfl) (hj : X.N[j]? = some y := by rfl)
    (hc : X.calm = true := by rfl) (hij : i ≠ j := by decide) (hx : X.env.scope.names.lookup x = some .local := by rfl) (hy : X.env.scope.names.lookup y = some .local := by rfl) (hl1 : inb Γ1 i = true := by rfl) (hl2 : inb Γ1 j = true := by rfl) (hb1 : pf F i = true := by rfl) (hb2 : pf F j = true := by rfl)
    (hw : swappedStores [.Tuple [.Name x px, .Name y py] kt pt] (.Tuple [a, b] k2 pt2) X.env = pure (some [x, y]) := by rfl) (hs : swapsWithSole [.Tuple [.Name x px, .Name y py] kt pt] (.Tuple [a, b] k2 pt2) pos.line X.env = pure false := by rfl) :
    PSs X (.Assign [.Tuple [.Name x px, .Name y py] kt pt] (.Tuple [a, b] k2 pt2) pos :: rest) (tS X.K F W Γ P) :=
  ds_seq (ps_imp (ps_par hc hN hi hj hij hx hy ha hw hs) fun D σ H ⟨G, E, q, _⟩ => ⟨G, E, fun vs H1 G1 s1 E1 v1 => by
    cases v1 with
    | cons p1 r1 =>
      cases r1 with
      | cons p2 r2 =>
        cases r2
        exact ⟨_, _, rfl, q _ _ H1 G1 hr s1.g ((E1.setDat p1 (inb_lt hl1) hb1).setDat p2 (by rw [st_length]; exact inb_lt hl2) hb2)⟩⟩)
def loopP (X : Cx) (F : Fx) (W : WX) (rest : List Stmt) (P : Out → Prop) (N : List Sl → Prop) : Out → Prop
  | .nx Γ => N Γ
  | .ct Γ => N Γ
  | .bk Γ => PSs X rest (tS X.K F W Γ P)
  | o => P o
theorem ds_while (V : Nat → List Sl → Prop) (m : Nat) (h0 : V m Γ) (hp : PassesOwn (model X.prog X.w) X.A X.env X.xe)
    (turn : ∀ m Γ, V m Γ → ∃ k Γ1, PT X c (tDT X.K F Γ k Γ1) ∧ (k = true → PSs X body (tS X.K F W Γ1 (loopP X F W rest P fun Γ' => ∃ m', m' < m ∧ V m' Γ'))) ∧ (k = false → PSs X rest (tS X.K F W Γ1 P))) :
    PSs X (.While c body [] pos :: rest) (tS X.K F W Γ P) := by
  refine ds_seq ?_
  have hc : PT X c (fun σ H Q => ∃ m Γ k Γ1, V m Γ ∧ PT X c (tDT X.K F Γ k Γ1) ∧ tDT X.K F Γ k Γ1 σ H Q) := ⟨fun pins s σ H Q I ⟨_, _, _, _, _, p, q⟩ => p.run pins s σ H Q I q⟩
  have hb : PSs X body (fun D σ H => ∃ m Γ1, PSs X body (tS X.K F W Γ1 (loopP X F W rest P fun Γ' => ∃ m', m' < m ∧ V m' Γ')) ∧ tS X.K F W Γ1 (loopP X F W rest P fun Γ' => ∃ m', m' < m ∧ V m' Γ') D σ H) := ⟨fun pins s σ H D I ⟨_, _, p, q⟩ => p.run pins s σ H D I q⟩
  refine ps_imp (ps_while hp hc hb) fun D σ H ⟨G, E, q1, q2, q3, q4, q5⟩ => ?_
  refine ⟨fun m σ H => ∃ Γ G', V m Γ ∧ Same G G' ∧ En X.K F G' σ H Γ, ⟨m, Γ, G, h0, Same.r, E⟩, ?_⟩
  rintro m σ H ⟨Γ, G1, v, sg, E1⟩
  obtain ⟨k, Γ1, pt, hy, hn⟩ := turn m Γ v
  refine ⟨m, Γ, k, Γ1, v, pt, G1, E1, fun H2 G2 s2 E2 => ?_⟩
  cases k with
  | true =>
    rw [if_pos rfl]
    refine ⟨fun σ' H' => ∃ Γ' G', (∃ m', m' < m ∧ V m' Γ') ∧ Same G G' ∧ En X.K F G' σ' H' Γ', fun σ' H' ⟨Γ', G', ⟨m', h1, h2⟩, h3, h4⟩ => ⟨m', h1, Γ', G', h2, h3, h4⟩, m, Γ1, hy rfl, G2, E2, ?_, ?_, ?_, ?_, ?_⟩
    · exact fun Γ' σ' H' G' p g E' => ⟨Γ', G', p, (sg.trans s2.g).trans g, E'⟩
    · exact fun d Γ' v σ' H' G' p g E' => q2 d Γ' v σ' H' G' p ((sg.trans s2.g).trans g) E'
    · exact fun Γ' σ' H' G' p g E' => q1 Γ' σ' H' G' p ((sg.trans s2.g).trans g) E'
    · exact fun Γ' σ' H' G' p g E' => ⟨Γ', G', p, (sg.trans s2.g).trans g, E'⟩
    · exact fun c Γ' σ' H' G' p g E' => q5 c Γ' σ' H' G' p ((sg.trans s2.g).trans g) E'
  | false =>
    rw [if_neg Bool.false_ne_true]
    exact q1 Γ1 σ H2 G2 (hn rfl) (sg.trans s2.g) E2
structure ItD (K : PySem.W.Frag) (G : Hp) (J : It) (ds : List PyData) : Prop where
  go : ∀ i H, Same G H → i < ds.length → J.go i H
  yl : ∀ i H G1 x H', Same G G1 → Same G1 H → i < ds.length → J.yld i H x H' → ∃ d, ds[i]? = some d ∧ ((H' = H ∧ Dq K G1 x d) ∨ ∃ p o, H p = none ∧ NoTb o ∧ H' = upd H p o ∧ Dq K (upd G1 p o) x d)
  stop : ∀ i H, Same G H → ds.length ≤ i → J.stop i H
def tI (K : PySem.W.Frag) (F : Fx) (Γ : List Sl) (ds : List PyData) (Γ' : List Sl) : TI := fun σ H R => ∃ G, En K F G σ H Γ ∧
  ∀ J H' G', Step σ Γ Γ' G H G' H' → En K F G' σ H' Γ' → ItD K G' J ds → R J H'
def tT (K : PySem.W.Frag) (F : Fx) (A : PyData → List Sl → List Sl → Prop) : TG := fun v σ H Q => ∃ G d Γ Γ', A d Γ Γ' ∧ En K F G σ H Γ ∧ Dq K G v d ∧ ∀ σ' H' G', Same G G' → En K F G' σ' H' Γ' → Q σ' H'
theorem ds_for {tg iter : Expr} {ds : List PyData} {A : PyData → List Sl → List Sl → Prop} (V : Nat → List Sl → Prop) (hi : PI X tg iter (tI X.K F Γ ds Γ1)) (hg : PG X tg (tT X.K F A)) (h0 : V 0 Γ1) (hp : PassesOwn (model X.prog X.w) X.A X.env X.xe)
    (turn : ∀ i d Γ, ds[i]? = some d → V i Γ → ∃ Γt, A d Γ Γt ∧ PSs X body (tS X.K F W Γt (loopP X F W rest P (V (i + 1)))))
    (done : ∀ Γ, V ds.length Γ → PSs X rest (tS X.K F W Γ P)) (hc : X.calm = true := by rfl) (hs : ∀ x, foldedSetIterable iter X.env x = pure x := by intro _; rfl) :
    PSs X (.For tg iter body [] pos :: rest) (tS X.K F W Γ P) := by
  refine ds_seq ?_
  have hb : PSs X body (fun D σ H => ∃ i Γt, PSs X body (tS X.K F W Γt (loopP X F W rest P (V (i + 1)))) ∧ tS X.K F W Γt (loopP X F W rest P (V (i + 1))) D σ H) := ⟨fun pins s σ H D I ⟨_, _, p, q⟩ => p.run pins s σ H D I q⟩
  refine ps_imp (ps_for hp hc hi hg hb hs) fun D σ H ⟨G, E, q1, q2, q3, q4, q5⟩ => ⟨G, E, fun J H1 G1 s1 E1 it => ?_⟩
  refine ⟨fun i m σ H => m = ds.length - i ∧ i ≤ ds.length ∧ ∃ Γ G', V i Γ ∧ Same G1 G' ∧ En X.K F G' σ H Γ, ⟨ds.length, by simp, Nat.zero_le _, Γ1, G1, h0, Same.r, E1⟩, ?_⟩
  rintro i m σ H ⟨rfl, hle, Γ, G2, v, sg, E2⟩
  by_cases hlt : i < ds.length
  · refine .inr ⟨it.go i H (sg.trans E2.le) hlt, fun σ' H' => ∃ Γ' G', V (i + 1) Γ' ∧ Same G1 G' ∧ En X.K F G' σ' H' Γ', fun σ' H' ⟨Γ', G', h1, h2, h3⟩ => ⟨ds.length - (i + 1), by omega, rfl, hlt, Γ', G', h1, h2, h3⟩, fun x H' y => ?_⟩
    obtain ⟨d, hd, alt⟩ := it.yl i H G2 x H' sg E2.le hlt y
    obtain ⟨Γt, hA, hbody⟩ := turn i d Γ hd v
    have fin : ∀ G3, Same G2 G3 → En X.K F G3 σ H' Γ → Dq X.K G3 x d → tT X.K F A x σ H' (fun σ2 H2 => ∃ n Γt, PSs X body (tS X.K F W Γt (loopP X F W rest P (V (n + 1)))) ∧ tS X.K F W Γt (loopP X F W rest P (V (n + 1))) { D with nx := fun σ' H' => ∃ Γ' G', V (i + 1) Γ' ∧ Same G1 G' ∧ En X.K F G' σ' H' Γ', ct := fun σ' H' => ∃ Γ' G', V (i + 1) Γ' ∧ Same G1 G' ∧ En X.K F G' σ' H' Γ', bk := D.nx } σ2 H2) := fun G3 s3 E3 d3 => by
      have sg3 : Same G1 G3 := sg.trans s3
      refine ⟨G3, d, Γ, Γt, hA, E3, d3, fun σ4 H4 G4 s4 E4 => ?_⟩
      refine ⟨i, Γt, hbody, ?_⟩
      have sg4 : Same G1 G4 := sg3.trans s4
      have sgG : Same G G4 := s1.g.trans sg4
      refine ⟨G4, E4, ?_, ?_, ?_, ?_, ?_⟩
      · exact fun Γ' σ' H' G' p g E' => ⟨Γ', G', p, sg4.trans g, E'⟩
      · exact fun d Γ' v σ' H' G' p g E' => q2 d Γ' v σ' H' G' p (sgG.trans g) E'
      · exact fun Γ' σ' H' G' p g E' => q1 Γ' σ' H' G' p (sgG.trans g) E'
      · exact fun Γ' σ' H' G' p g E' => ⟨Γ', G', p, sg4.trans g, E'⟩
      · exact fun c Γ' σ' H' G' p g E' => q5 c Γ' σ' H' G' p (sgG.trans g) E'
    rcases alt with ⟨rfl, hx⟩ | ⟨p, o, hp', ho, rfl, hx⟩
    · exact fin G2 Same.r E2 hx
    · exact fin _ (same_upd (E2.no hp').2.2) (E2.newDat hp' ho) hx
  · have e : i = ds.length := by omega
    subst e
    refine .inl ⟨it.stop _ H (sg.trans E2.le) (Nat.le_refl _), q1 Γ σ H G2 (done Γ v) (s1.g.trans sg) E2⟩
def aName (F : Fx) (i : Nat) : PyData → List Sl → List Sl → Prop := fun d Γ Γ' => Γ' = st Γ i (.dat d) ∧ inb Γ i = true ∧ pf F i = true
theorem pt_name (i : Nat) {x : Str} (hN : X.N.Nodup) (hi : X.N[i]? = some x := by rfl) (hx : Loc X.env.scope x := by first | exact Or.inl rfl | exact Or.inr rfl) (hf : X.fn x = true ∨ X.env.scope.names.lookup x = some .local := by first | exact .inl rfl | exact .inr rfl | assumption) : PG X (.Name x pos) (tT X.K F (aName F i)) := by
  have h : PG X (.Name x pos) (gName i) := pg_name hN hi hx hf
  refine ⟨fun pins s σ H v u Q I r ⟨G, d, Γ, Γ', ⟨e, hl, hb⟩, E, hd, q⟩ => h.run pins s σ H v u Q I r ?_⟩
  subst e
  exact q _ H G Same.r (E.setDat hd (inb_lt hl) hb)
theorem itd_list {K : PySem.W.Frag} {G : Hp} {p : Addr} {vs : List V} {ds : List PyData} (hq : Rd G p (.lst vs)) (ha : DqAll K G vs ds) : ItD K G (Itl K p) ds where
  go := fun i H e hi => by
    obtain ⟨v, hv, _⟩ := dpa_get (i := i) ha (List.getElem?_eq_getElem hi)
    exact ⟨vs, v, .inl (rd_mono e hq), hv⟩
  yl := fun i H G1 x H' e1 e2 hi ⟨rfl, y⟩ => by
    obtain ⟨v, hv, hd⟩ := dpa_get (i := i) ha (List.getElem?_eq_getElem hi)
    have : x = v := Option.some.inj ((y vs (.inl (rd_mono (e1.trans e2) hq))).symm.trans hv)
    subst this
    exact ⟨_, List.getElem?_eq_getElem hi, .inl ⟨rfl, dp_mono e1 _ _ hd⟩⟩
  stop := fun i H e hi => ⟨vs, .inl (rd_mono e hq), by rw [dpa_len ha]; exact hi⟩
theorem itd_tup {K : PySem.W.Frag} {G : Hp} {p : Addr} {vs : List V} {ds : List PyData} (hq : SqT K G p vs) (ha : DqAll K G vs ds) : ItD K G (Itt K p) ds where
  go := fun i H e hi => by
    obtain ⟨v, hv, _⟩ := dpa_get (i := i) ha (List.getElem?_eq_getElem hi)
    exact ⟨vs, v, sqT_mono e hq, hv⟩
  yl := fun i H G1 x H' e1 e2 hi ⟨rfl, y⟩ => by
    obtain ⟨v, hv, hd⟩ := dpa_get (i := i) ha (List.getElem?_eq_getElem hi)
    have : x = v := Option.some.inj ((y vs (sqT_mono (e1.trans e2) hq)).symm.trans hv)
    subst this
    exact ⟨_, List.getElem?_eq_getElem hi, .inl ⟨rfl, dp_mono e1 _ _ hd⟩⟩
  stop := fun i H e hi => ⟨vs, sqT_mono e hq, by rw [dpa_len ha]; exact hi⟩
theorem di_list {tg : Expr} {ds : List PyData} (h : PE X e (tD X.K F Γ (.dat (.list ds)) Γ1)) : PI X tg e (tI X.K F Γ ds Γ1) := by
  have h1 : PI X tg e _ := pi_list h
  refine ⟨fun pins s σ H R I ⟨G, E, q⟩ => h1.run pins s σ H R I ⟨G, E, fun v H1 G1 s1 E1 v1 => ?_⟩⟩
  obtain ⟨p, vs, rfl, hq, ha⟩ := dp_lst v1
  exact ⟨p, rfl, ⟨vs, .inl (rd_mono E1.le (.inl hq))⟩, q _ H1 G1 s1 E1 (itd_list (.inl hq) ha)⟩
theorem di_tup {tg : Expr} {ds : List PyData} (h : PE X e (tD X.K F Γ (.dat (.tuple ds)) Γ1)) : PI X tg e (tI X.K F Γ ds Γ1) := by
  have h1 : PI X tg e _ := pi_tup h
  refine ⟨fun pins s σ H R I ⟨G, E, q⟩ => h1.run pins s σ H R I ⟨G, E, fun v H1 G1 s1 E1 v1 => ?_⟩⟩
  obtain ⟨p, vs, rfl, hq, ha⟩ := dp_tup v1
  exact ⟨p, rfl, ⟨vs, sqT_mono E1.le hq⟩, q _ H1 G1 s1 E1 (itd_tup hq ha)⟩
def rng (lo : Int) (n : Nat) : List PyData := (List.range n).map fun i : Nat => .int (lo + (i : Int))
theorem rng_len (lo : Int) (n : Nat) : (rng lo n).length = n := by simp [rng]
theorem rng_get (lo : Int) {n i : Nat} (h : i < n) : (rng lo n)[i]? = some (.int (lo + (i : Int))) := by simp [rng, h]
theorem itd_rng {K : PySem.W.Frag} {G : Hp} (lo : Int) (n : Nat) : ItD K G (Itr lo n) (rng lo n) where
  go := fun i H e hi => by rw [rng_len] at hi; exact hi
  yl := fun i H G1 x H' e1 e2 hi ⟨rfl, y⟩ => by
    rw [rng_len] at hi
    subst y
    exact ⟨_, rng_get lo hi, .inl ⟨rfl, .int _⟩⟩
  stop := fun i H e hi => by rw [rng_len] at hi; exact hi
theorem di_range1 {tg : Expr} {j : Int} {p : Pos} (ha : PA X [a] (tDA X.K F Γ [.dat (.int j)] Γ1)) (hm : X.mg "range" = none) (h1 : -(2 ^ 62) ≤ j) (h2 : j < 2 ^ 62) (hg : Gl X "range" := by rfl) (hs : starEach [a] X.env = [(false, eval a X.env)] := by rfl) : PI X tg (.Call (.Name "range" p) [a] [] pos) (tI X.K F Γ (rng 0 j.toNat) Γ1) := by
  have h := pi_range1 (tg := tg) (p := p) (pos := pos) hg hm ha hs
  refine ⟨fun pins s σ H R I ⟨G, E, q⟩ => h.run pins s σ H R I ⟨G, E, fun vs H1 G1 s1 E1 v1 => ?_⟩⟩
  cases v1 with
  | cons p1 r1 =>
    cases r1
    exact ⟨j, by rw [dp_int p1], h1, h2, q _ H1 G1 s1 E1 (itd_rng 0 _)⟩
theorem di_range2 {tg : Expr} {i j : Int} {p : Pos} (ha : PA X [a, b] (tDA X.K F Γ [.dat (.int i), .dat (.int j)] Γ1)) (hm : X.mg "range" = none) (h1 : -(2 ^ 62) ≤ i ∧ i < 2 ^ 62 ∧ -(2 ^ 62) ≤ j ∧ j < 2 ^ 62) (hg : Gl X "range" := by rfl) (hs : starEach [a, b] X.env = [(false, eval a X.env), (false, eval b X.env)] := by rfl) (hs2 : starEach [b] X.env = [(false, eval b X.env)] := by rfl) : PI X tg (.Call (.Name "range" p) [a, b] [] pos) (tI X.K F Γ (rng i (j - i).toNat) Γ1) := by
  have h := pi_range2 (tg := tg) (p := p) (pos := pos) hg hm ha hs hs2
  refine ⟨fun pins s σ H R I ⟨G, E, q⟩ => h.run pins s σ H R I ⟨G, E, fun vs H1 G1 s1 E1 v1 => ?_⟩⟩
  cases v1 with
  | cons p1 r1 =>
    cases r1 with
    | cons p2 r2 =>
      cases r2
      exact ⟨i, j, by rw [dp_int p1, dp_int p2], h1, q _ H1 G1 s1 E1 (itd_rng i _)⟩
end
inductive Res where
  | ok (d : PyData)
  | ex (c : Addr)
structure Grown (G H G' H' : Hp) : Prop where
  h : Same H H'
  g : Same G G'
  le : Same G' H'
  f : ∀ a o, G' a = some o → (∃ o', G a = some o') ∨ H a = none
  nt : NT G'
def spP (K : PySem.W.Frag) (R : List PyData → Res → Prop) : Sp := fun vs H Q E => ∃ G ds r, Same G H ∧ NT G ∧ DqAll K G vs ds ∧ R ds r ∧
  match r with
  | .ok d => ∀ v H' G', Grown G H G' H' → Dq K G' v d → Q v H'
  | .ex c => ∀ H', Same H H' → E (.ref c) none H'
def wantP : Res → Out → Prop
  | .ok d, .rt d' _ => d' = d
  | .ok d, .nx _ => d = .none
  | .ex c, .ex c' => c' = c
  | _, _ => False
def startG (N : Nat) (ds : List PyData) : List Sl := ds.map .dat ++ List.replicate (N - ds.length) .no
theorem lk_start (N : Nat) : ∀ (ds : List PyData) (i : Nat), lk (ds.map Sl.dat ++ List.replicate (N - ds.length) .no) i = (match ds[i]? with | some d => .dat d | none => .no) := by
  have big : ∀ (n i : Nat), lk (List.replicate n Sl.no) i = .no := by
    intro n
    induction n with
    | zero => intro i; rfl
    | succ n ih =>
      intro i
      cases i with
      | zero => rfl
      | succ i => exact ih i
  have gen : ∀ (m : Nat) (ds : List PyData) (i : Nat), lk (ds.map Sl.dat ++ List.replicate m .no) i = (match ds[i]? with | some d => .dat d | none => .no) := by
    intro m ds
    induction ds with
    | nil => intro i; simpa using big m i
    | cons d ds ih =>
      intro i
      cases i with
      | zero => rfl
      | succ i => simpa [lk] using ih i
  exact fun ds i => gen _ ds i
section
variable {P : Program} {w : World} {K : PySem.W.Frag} {mg : Str → Option Value} {base : Heap}
def fx0 (H G : Hp) : Fx := ⟨[], H, G, []⟩
theorem fx0_M {H G : Hp} {a : Addr} : ¬ (fx0 H G).M a := fun h => by
  rcases h with ⟨_, h⟩ | ⟨_, h⟩ <;> cases h
theorem env_start {G H : Hp} {vs : List V} {ds : List PyData} {N : List Str} (sg : Same G H) (nt : NT G) (ha : DqAll K G vs ds) (hl : ds.length ≤ N.length) : En K (fx0 H G) G (L2.start N vs) H (startG N.length ds) where
  le := sg
  g0 := Same.r
  fr := fun a o h => .inl ⟨o, h⟩
  base := fun a o _ h => h
  mu := fun a z => (fx0_M z).elim
  sl := fun i => by
    unfold startG
    rw [lk_start]
    cases q : ds[i]? with
    | none => trivial
    | some d =>
      obtain ⟨v, hv, hd⟩ := dpa_get ha q
      refine ⟨v, ?_, hd⟩
      unfold L2.start
      rw [List.getElem?_append_left (by have := (List.getElem?_eq_some_iff.mp hv).1; simpa using this), List.getElem?_map, hv]
      rfl
  nd := fun i j p xs ys e1 => by
    unfold startG at e1
    rw [lk_start] at e1
    cases q : ds[i]? <;> rw [q] at e1 <;> cases e1
  len := by
    have e := dpa_len ha
    simp [L2.start, startG, e]
  pin := fun q hq => by cases hq
  tab := fun q hq => by cases hq
  nt := nt
structure FunG (K : PySem.W.Frag) (x qual : Str) (st : Stmt) (f : Addr) (fd : FuncData) : Prop where
  ex : ∃ (oc : Value) (od : Option Addr) (dV kV doc pm : Value) (an : Option Addr) (cdv ct : Value) (osl : Array (Option Value)),
    fd = PySem.W.fnOf x qual (defArgs st) (defBody st) (defScope st) dV kV doc pm an cdv ct ∧ K.lookup f = some ⟨oc, od, .func fd, osl⟩ ∧ PySem.W.codeIn K cdv qual = true
  kp : PySem.W.keepIn K (.ref f) = true
theorem FunG.okX {x qual : Str} {st : Stmt} {f : Addr} {fd : FuncData} {N ps : List Str} {k : Nat} {sp : Sp} (F : FunG K x qual st f fd) (S : FnScope N ps (defScope st)) (len : ∀ vs H Q E, sp vs H Q E → vs.length = ps.length)
    (hbody : ∀ (cdv : Value) (A : Around) (outer : List PySem.Env) (s : Shared) (H : Hp) (vs : List V) (Q : VK) (E : XK), Room k (A.deeper (envOfC qual (defScope st) s.heap.objs.size f cdv)) → sp vs H Q E →
      ∃ t, PSs (cxOf (L2.CX P w) P w K mg base N qual (defScope st) f cdv A outer s H E) (defBody st) t ∧ t { nx := fun _ H' => Q .non H', rt := Q } (L2.start N vs) H) : FnOk P w K mg base (L2.CX P w) (k + 1) f fd ps sp := by
  obtain ⟨oc, od, dV, kV, doc, pm, an, cdv, ct, osl, rfl, lk, hcd⟩ := F.ex
  exact fn_of lk hcd S len fun A outer s H vs Q E hr hsp => hbody cdv A outer s H vs Q E hr hsp
theorem fun_g {x qual : Str} {st : Stmt} {f : Addr} {fd : FuncData} (F : Fun K x qual st f fd) : FunG K x qual st f fd := by
  obtain ⟨oc, od, kV, doc, pm, an, cdv, ct, osl, e, lk, hcd⟩ := F.ex
  exact ⟨⟨oc, od, .none, kV, doc, pm, an, cdv, ct, osl, e, lk, hcd⟩, F.kp⟩
theorem fn_pure {x qual : Str} {st : Stmt} {f : Addr} {fd : FuncData} {N ps : List Str} {k : Nat} {R : List PyData → Res → Prop} (Fn : FunG K x qual st f fd) (S : FnScope N ps (defScope st)) (len : ∀ ds r, R ds r → ds.length = ps.length) (hle : ps.length ≤ N.length)
    (body : ∀ (cdv : Value) (A : Around) (outer : List PySem.Env) (s : Shared) (H G : Hp) (E : XK) (ds : List PyData) (r : Res), Room k (A.deeper (envOfC qual (defScope st) s.heap.objs.size f cdv)) → R ds r →
      PSs (cxOf (L2.CX P w) P w K mg base N qual (defScope st) f cdv A outer s H E) (defBody st) (tS K (fx0 H G) (fun c d _ H => E c d H) (startG N.length ds) (wantP r))) : FnOk P w K mg base (L2.CX P w) (k + 1) f fd ps (spP K R) := by
  refine Fn.okX S (fun vs H Q E h => ?_) (fun cdv A outer s H vs Q E hr h => ?_)
  · obtain ⟨G, ds, r, _, _, ha, hR, _⟩ := h
    rw [dpa_len ha]; exact len _ _ hR
  · obtain ⟨G, ds, r, sg, nt, ha, hR, q⟩ := h
    refine ⟨_, body cdv A outer s H G E ds r hr hR, ?_⟩
    have E0 := env_start (K := K) (N := N) sg nt ha (by rw [len _ _ hR]; exact hle)
    have gr : ∀ {σ' H' G' Γ'}, Same G G' → En K (fx0 H G) G' σ' H' Γ' → Grown G H G' H' := fun g E' => ⟨fun a o h => E'.base a o fx0_M h, g, E'.le, E'.fr, E'.nt⟩
    refine ⟨G, E0, ?_, ?_, ?_, ?_, ?_⟩
    · intro Γ' σ' H' G' p g E'
      cases r with
      | ok d =>
        have : d = .none := p
        subst this
        exact q .non H' G' (gr g E') .non
      | ex c => exact p.elim
    · intro d' Γ' v σ' H' G' p g E' hd
      cases r with
      | ok d =>
        have : d' = d := p
        subst this
        exact q v H' G' (gr g E') hd
      | ex c => exact p.elim
    · intro Γ' σ' H' G' p
      cases r <;> exact p.elim
    · intro Γ' σ' H' G' p
      cases r <;> exact p.elim
    · intro c Γ' σ' H' G' p g E'
      cases r with
      | ok d => exact p.elim
      | ex c' =>
        have : c = c' := p
        subst this
        exact q H' (gr g E').h
end
section
variable {X : Cx} {F : Fx} {W : WX} {Γ Γ1 Γ2 : List Sl} {a e : Expr} {es : List Expr} {pos p : Pos} {k : Nat} {f : Addr} {fd : FuncData} {ps : List Str} {x : Str} {R : List PyData → Res → Prop} {rs : List Rv} {ds : List PyData} {d : PyData}
theorem En.grown {K : PySem.W.Frag} {G H G' H' : Hp} {σ : L2.St} (E : En K F G σ H Γ) (g : Grown G H G' H') : En K F G' σ H' Γ where
  le := g.le
  g0 := fun a o h => g.g a o (E.g0 a o h)
  fr := fun a o h => by
    rcases g.f a o h with ⟨o', h'⟩ | h'
    · exact E.fr a o' h'
    · exact .inr (E.no h').1
  base := fun a o n h => g.h a o (E.base a o n h)
  mu := fun a m => by
    obtain ⟨o, h⟩ := E.mu a m
    exact ⟨o, g.h a o h⟩
  sl := fun i => by
    have s := E.sl i
    cases q : lk Γ i with
    | no => trivial
    | dat d => rw [q] at s; obtain ⟨v, e, hd⟩ := s; exact ⟨v, e, dp_mono g.g _ _ hd⟩
    | own xs =>
      rw [q] at s
      obtain ⟨p, vs, e, gp, hp, ha, hm⟩ := s
      refine ⟨p, vs, e, ?_, g.h _ _ hp, dpa_mono g.g _ _ ha, hm⟩
      cases z : G' p with
      | none => rfl
      | some o =>
        rcases g.f p o z with ⟨o', h'⟩ | h'
        · rw [gp] at h'; cases h'
        · rw [hp] at h'; cases h'
  nd := E.nd
  len := E.len
  pin := E.pin
  tab := E.tab.ext g.h
  nt := g.nt
theorem Grown.step {G H G' H' : Hp} {σ : L2.St} (g : Grown G H G' H') : Step σ Γ Γ G H G' H' := ⟨g.g, fun a o h => (g.f a o h).imp id Nl.none, fun a o h _ _ => g.h a o h, fun _ h => h, fun a vs h => ⟨vs, g.h a _ h⟩⟩
theorem de_call (Gf : FnOk X.prog X.w X.K X.mg X.base (L2.CX X.prog X.w) k f fd ps (spP X.K R)) (hr : Room k X.A) (hm : X.mg x = some (.ref f)) (hk : PySem.W.keepIn X.K (.ref f) = true) (hb : Binds X.K fd ps []) (ha : PA X (e :: es) (tDA X.K F Γ rs Γ1)) (hR : R ds (.ok d)) (hd : datS rs = some ds := by rfl)
    (hg : Gl X x := by rfl) (hdb : (x == ("__debug__" : Str)) = false := by decide) (he : starEach (e :: es) X.env = (false, eval e X.env) :: starEach es X.env := by rfl) (hpl : (backTo pos (starEach es X.env)).any (·.1) = false := by rfl) :
    PE X (.Call (.Name x p) (e :: es) [] pos) (tD X.K F Γ (.dat d) Γ1) :=
  pe_imp (pe_callS (E := WE fun _ _ _ _ => False) Gf hr hg hm hk hb (fun σ => passAt takes0 σ) ha hdb he hpl) fun σ H Q ⟨G, E, q⟩ => ⟨G, E, fun vs H1 G1 s1 E1 v1 =>
    ⟨G1, ds, .ok d, E1.le, E1.nt, datS_dp v1 hd, hR, fun v H' G' g hv => q v H' G' (s1.trans g.step) (E1.grown g) hv⟩⟩
end
end AM

set_option Elab.async false
set_option linter.all false
set_option maxRecDepth 100000
set_option maxHeartbeats 2000000
namespace AM
open PySem PySem.Spec PyProof.Rows L2
section
variable {X : Cx} {F : Fx} {W : WX} {Γ Γ1 Γ2 : List Sl} {P : Out → Prop} {rest body orelse : List Stmt} {e a b c : Expr} {es : List Expr} {pos pos' p p2 : Pos} {d da db : PyData} {ra rb rc : Rv} {rs : List Rv} {xs ds : List PyData} {x : Str}
def RDC (K : PySem.W.Frag) (F : Fx) (Γ : List Sl) (r : List V → Hp → VK → Prop) (rs : List Rv) (rc : Rv) : Prop := ∀ G H σ vs (Q : VK), En K F G σ H Γ → Paired (fun v r => VR K G σ v r) vs rs →
  (∀ v H' G', Step σ Γ Γ G H G' H' → En K F G' σ H' Γ → VR K G' σ v rc → Q v H') → r vs H Q
def RNC (K : PySem.W.Frag) (F : Fx) (Γ : List Sl) (r : List V → Hp → VK → Prop) (rs : List Rv) (xs : List PyData) : Prop := ∀ G H σ vs (Q : VK), En K F G σ H Γ → Paired (fun v r => VR K G σ v r) vs rs →
  (∀ p vs H' G', Step σ Γ Γ G H G' H' → En K F G' σ H' Γ → Fre F H p → G' p = none → H' p = some (.lst vs) → DqAll K G' vs xs → Q (.ref p) H') → r vs H Q
theorem td_cb {K : PySem.W.Frag} {r : List V → Hp → VK → Prop} (h : RDC K F Γ1 r rs rc) {σ : L2.St} {H : Hp} {Q : VK} (q : tD K F Γ rc Γ1 σ H Q) : tCB r (tDA K F Γ rs Γ1) σ H Q := by
  obtain ⟨G, E, k⟩ := q
  exact ⟨G, E, fun vs H1 G1 s1 E1 v1 => h G1 H1 σ vs Q E1 v1 fun v H2 G2 s2 E2 v2 => k v H2 G2 (s1.trans s2) E2 v2⟩
theorem tn_cb {K : PySem.W.Frag} {r : List V → Hp → VK → Prop} (h : RNC K F Γ1 r rs xs) {σ : L2.St} {H : Hp} {Q : VK} (q : tN K F Γ xs Γ1 σ H Q) : tCB r (tDA K F Γ rs Γ1) σ H Q := by
  obtain ⟨G, E, k⟩ := q
  exact ⟨G, E, fun vs H1 G1 s1 E1 v1 => h G1 H1 σ vs Q E1 v1 fun p vs H2 G2 s2 E2 h1 h2 h3 h4 => k p vs H2 G2 (s1.trans s2) E2 (h1.back s1) h2 h3 h4⟩
theorem de_callB {id : String} {r : List V → Hp → VK → Prop} (hc : CallR X (.builtin id) r) (h : RDC X.K F Γ1 r rs rc) (ha : PA X (e :: es) (tDA X.K F Γ rs Γ1)) (hm : X.mg x = none) (hv : bootBuiltins x = some (.builtin id)) (hg : Gl X x := by rfl) (hn : x ≠ "__name__" := by decide) (hdb : (x == ("__debug__" : Str)) = false := by decide)
    (he : starEach (e :: es) X.env = (false, eval e X.env) :: starEach es X.env := by rfl) (hpl : (backTo pos (starEach es X.env)).any (·.1) = false := by rfl) : PE X (.Call (.Name x p) (e :: es) [] pos) (tD X.K F Γ rc Γ1) :=
  pe_imp (pe_callB hc hg hm hv ha hn hdb he hpl) fun _ _ _ q => td_cb h q
theorem de_callTy {id : String} {r : List V → Hp → VK → Prop} (hc : CallR X (.type id) r) (h : RDC X.K F Γ1 r rs rc) (ha : PA X (e :: es) (tDA X.K F Γ rs Γ1)) (hm : X.mg x = none) (hv : bootBuiltins x = some (.type id)) (hg : Gl X x := by rfl) (hn : x ≠ "__name__" := by decide) (hdb : (x == ("__debug__" : Str)) = false := by decide)
    (he : starEach (e :: es) X.env = (false, eval e X.env) :: starEach es X.env := by rfl) (hpl : (backTo pos (starEach es X.env)).any (·.1) = false := by rfl) : PE X (.Call (.Name x p) (e :: es) [] pos) (tD X.K F Γ rc Γ1) :=
  pe_imp (pe_callTy hc hg hm hv ha hn hdb he hpl) fun _ _ _ q => td_cb h q
theorem dn_callB {id : String} {r : List V → Hp → VK → Prop} (hc : CallR X (.builtin id) r) (h : RNC X.K F Γ1 r rs xs) (ha : PA X (e :: es) (tDA X.K F Γ rs Γ1)) (hm : X.mg x = none) (hv : bootBuiltins x = some (.builtin id)) (hg : Gl X x := by rfl) (hn : x ≠ "__name__" := by decide) (hdb : (x == ("__debug__" : Str)) = false := by decide)
    (he : starEach (e :: es) X.env = (false, eval e X.env) :: starEach es X.env := by rfl) (hpl : (backTo pos (starEach es X.env)).any (·.1) = false := by rfl) : PE X (.Call (.Name x p) (e :: es) [] pos) (tN X.K F Γ xs Γ1) :=
  pe_imp (pe_callB hc hg hm hv ha hn hdb he hpl) fun _ _ _ q => tn_cb h q
theorem dn_callTy {id : String} {r : List V → Hp → VK → Prop} (hc : CallR X (.type id) r) (h : RNC X.K F Γ1 r rs xs) (ha : PA X (e :: es) (tDA X.K F Γ rs Γ1)) (hm : X.mg x = none) (hv : bootBuiltins x = some (.type id)) (hg : Gl X x := by rfl) (hn : x ≠ "__name__" := by decide) (hdb : (x == ("__debug__" : Str)) = false := by decide)
    (he : starEach (e :: es) X.env = (false, eval e X.env) :: starEach es X.env := by rfl) (hpl : (backTo pos (starEach es X.env)).any (·.1) = false := by rfl) : PE X (.Call (.Name x p) (e :: es) [] pos) (tN X.K F Γ xs Γ1) :=
  pe_imp (pe_callTy hc hg hm hv ha hn hdb he hpl) fun _ _ _ q => tn_cb h q
section
variable {K : PySem.W.Frag}
theorem paired1 {α β : Type} {R : α → β → Prop} {vs : List α} {r : β} (h : Paired R vs [r]) : ∃ v, vs = [v] ∧ R v r := by
  cases h with
  | cons p q => cases q; exact ⟨_, rfl, p⟩
theorem paired2 {α β : Type} {R : α → β → Prop} {vs : List α} {r r2 : β} (h : Paired R vs [r, r2]) : ∃ v w, vs = [v, w] ∧ R v r ∧ R w r2 := by
  cases h with
  | cons p q => cases q with
    | cons p2 q => cases q; exact ⟨_, _, rfl, p, p2⟩
theorem paired3 {α β : Type} {R : α → β → Prop} {vs : List α} {r r2 r3 : β} (h : Paired R vs [r, r2, r3]) : ∃ v w u, vs = [v, w, u] ∧ R v r ∧ R w r2 ∧ R u r3 := by
  cases h with
  | cons p q => cases q with
    | cons p2 q => cases q with
      | cons p3 q => cases q; exact ⟨_, _, _, rfl, p, p2, p3⟩
theorem rc_abs {i : Int} : RDC K F Γ (fun xs H Q => ∃ i, xs = [.int i] ∧ Q (.int (if i < 0 then -i else i)) H) [.dat (.int i)] (.dat (.int (i.natAbs : Int))) := fun G H σ vs Q E pv k => by
  obtain ⟨v, rfl, h⟩ := paired1 pv
  refine ⟨i, by rw [dp_int h], k _ H G Step.refl E ?_⟩
  have : (if i < 0 then -i else i) = (i.natAbs : Int) := by split <;> omega
  rw [this]
  exact .int _
theorem rc_max2 {i j : Int} : RDC K F Γ (fun xs H Q => ∃ i j, xs = [.int i, .int j] ∧ Q (.int (if j > i then j else i)) H) [.dat (.int i), .dat (.int j)] (.dat (.int (max i j))) := fun G H σ vs Q E pv k => by
  obtain ⟨v, w, rfl, h, h2⟩ := paired2 pv
  refine ⟨i, j, by rw [dp_int h, dp_int h2], k _ H G Step.refl E ?_⟩
  have : (if j > i then j else i) = max i j := by split <;> omega
  rw [this]
  exact .int _
theorem rc_min2 {i j : Int} : RDC K F Γ (fun xs H Q => ∃ i j, xs = [.int i, .int j] ∧ Q (.int (if j < i then j else i)) H) [.dat (.int i), .dat (.int j)] (.dat (.int (min i j))) := fun G H σ vs Q E pv k => by
  obtain ⟨v, w, rfl, h, h2⟩ := paired2 pv
  refine ⟨i, j, by rw [dp_int h, dp_int h2], k _ H G Step.refl E ?_⟩
  have : (if j < i then j else i) = min i j := by split <;> omega
  rw [this]
  exact .int _
theorem seq_of {G H : Hp} {σ : L2.St} (E : En K F G σ H Γ) {v : V} (h : VR K G σ v ra) (va : vw Γ ra = some da) (hs : sqOf da = some ds) :
    ∃ p vs, v = .ref p ∧ ((da = .list ds ∧ Rd H p (.lst vs)) ∨ (da = .tuple ds ∧ SqT K H p vs)) ∧ DqAll K G vs ds := by
  cases ra with
  | dat d' =>
    have : d' = da := Option.some.inj va
    subst this
    have h : Dq K G v d' := h
    cases h with
    | lst q al => cases hs; exact ⟨_, _, rfl, .inl ⟨rfl, rd_mono E.le (.inl q)⟩, al⟩
    | tup q al => cases hs; exact ⟨_, _, rfl, .inr ⟨rfl, sqT_mono E.le q⟩, al⟩
    | _ => cases hs
  | al j =>
    have s := E.sl j
    have va : vwS (lk Γ j) = some da := va
    have h : σ[j]? = some (some v) := h
    cases q : lk Γ j with
    | no => rw [q] at va; cases va
    | dat d' =>
      rw [q] at va s
      have : d' = da := Option.some.inj va
      subst this
      obtain ⟨v', e1, hd'⟩ := s
      rw [h] at e1
      cases e1
      clear q
      cases hd' with
      | lst q al => cases hs; exact ⟨_, _, rfl, .inl ⟨rfl, rd_mono E.le (.inl q)⟩, al⟩
      | tup q al => cases hs; exact ⟨_, _, rfl, .inr ⟨rfl, sqT_mono E.le q⟩, al⟩
      | _ => cases hs
    | own ys =>
      rw [q] at va s
      have : PyData.list ys = da := Option.some.inj va
      subst this
      cases hs
      obtain ⟨p, vs, e1, g, hp, ha, _⟩ := s
      rw [h] at e1
      cases e1
      exact ⟨p, vs, rfl, .inl ⟨rfl, .inl hp⟩, ha⟩
theorem rc_len (va : vw Γ ra = some da) (hs : sqOf da = some ds) : RDC K F Γ (fun xs H Q => ∃ p ys, xs = [.ref p] ∧ (SqL K H p ys ∨ SqT K H p ys) ∧ Q (.int ys.length) H) [ra] (.dat (.int (ds.length : Int))) := fun G H σ vs Q E pv k => by
  obtain ⟨v, rfl, h⟩ := paired1 pv
  obtain ⟨p, vs, rfl, alt, al⟩ := seq_of E h va hs
  refine ⟨p, vs, rfl, ?_, k _ H G Step.refl E ?_⟩
  · rcases alt with ⟨_, q⟩ | ⟨_, q⟩
    · exact .inl (.inl q)
    · exact .inr q
  · rw [dpa_len al]; exact .int _
theorem rc_int1 {k : Bool} : RDC K F Γ (fun xs H Q => (∃ i, xs = [.int i] ∧ Q (.int i) H) ∨ ∃ k, xs = [.bl k] ∧ Q (.int (if k then 1 else 0)) H) [.dat (.bool k)] (.dat (.int (if k then 1 else 0))) := fun G H σ vs Q E pv q => by
  obtain ⟨v, rfl, h⟩ := paired1 pv
  exact .inr ⟨k, by rw [dp_bl h], q _ H G Step.refl E (.int _)⟩
theorem rc_tuple (va : vw Γ ra = some da) (hs : sqOf da = some ds) : RDC K F Γ (fun xs H Q => ∃ p ys, xs = [.ref p] ∧ ((SqL K H p ys ∧ ∀ l, H l = none → Q (.ref l) (upd H l (.tup ys))) ∨ (SqT K H p ys ∧ Q (.ref p) H))) [ra] (.dat (.tuple ds)) := fun G H σ vs Q E pv k => by
  obtain ⟨v, rfl, h⟩ := paired1 pv
  obtain ⟨p, vs, rfl, alt, al⟩ := seq_of E h va hs
  refine ⟨p, vs, rfl, ?_⟩
  rcases alt with ⟨e, q⟩ | ⟨e, q⟩
  · refine .inl ⟨.inl q, fun l hl => ?_⟩
    have g := (E.no hl).2.2
    exact k _ _ _ (Step.newDat hl g) (E.newDat hl) (.tup (SqT.of upd_same) (dpa_mono (same_upd g) _ _ al))
  · refine .inr ⟨q, k _ H G Step.refl E ?_⟩
    subst e
    -- the tuple itself: data it was
    cases ra with
    | dat d' =>
      have : d' = .tuple ds := Option.some.inj va
      subst this
      exact h
    | al j =>
      have s := E.sl j
      have va : vwS (lk Γ j) = some (.tuple ds) := va
      have h : σ[j]? = some (some (.ref p)) := h
      cases q : lk Γ j with
      | no => rw [q] at va; cases va
      | dat d' =>
        rw [q] at va s
        have : d' = .tuple ds := Option.some.inj va
        subst this
        obtain ⟨v', e1, hd'⟩ := s
        rw [h] at e1
        cases e1
        exact hd'
      | own ys => rw [q] at va; cases va
theorem rc_list (va : vw Γ ra = some da) (hs : sqOf da = some ds) : RNC K F Γ (fun xs H Q => ∃ p ys, xs = [.ref p] ∧ (SqL K H p ys ∨ SqT K H p ys) ∧ ∀ l, H l = none → Q (.ref l) (upd H l (.lst ys))) [ra] ds := fun G H σ vs Q E pv k => by
  obtain ⟨v, rfl, h⟩ := paired1 pv
  obtain ⟨p, vs, rfl, alt, al⟩ := seq_of E h va hs
  refine ⟨p, vs, rfl, ?_, fun l hl => k l vs _ G (Step.newRaw hl) (E.newRaw hl) (fre_of Step.refl E hl) (E.no hl).2.2 upd_same al⟩
  rcases alt with ⟨_, q⟩ | ⟨_, q⟩
  · exact .inl (.inl q)
  · exact .inr q
theorem rc_all {bs : List Bool} (va : vw Γ ra = some (.list (bs.map .bool))) : RDC K F Γ (rAll K) [ra] (.dat (.bool (bs.all id))) := fun G H σ vs Q E pv k => by
  obtain ⟨v, rfl, h⟩ := paired1 pv
  obtain ⟨p, vs, rfl, alt, al⟩ := seq_of E h va rfl
  rcases alt with ⟨_, q⟩ | ⟨e, _⟩
  · rw [dpa_bls al] at q
    exact ⟨p, bs, rfl, .inl q, k _ H G Step.refl E (.bl _)⟩
  · cases e
theorem rc_any {bs : List Bool} (va : vw Γ ra = some (.list (bs.map .bool))) : RDC K F Γ (rAny K) [ra] (.dat (.bool (bs.any id))) := fun G H σ vs Q E pv k => by
  obtain ⟨v, rfl, h⟩ := paired1 pv
  obtain ⟨p, vs, rfl, alt, al⟩ := seq_of E h va rfl
  rcases alt with ⟨_, q⟩ | ⟨e, _⟩
  · rw [dpa_bls al] at q
    exact ⟨p, bs, rfl, .inl q, k _ H G Step.refl E (.bl _)⟩
  · cases e
theorem rc_sum {ns : List Int} (va : vw Γ ra = some (.list (ns.map .int))) : RDC K F Γ (rSum K) [ra] (.dat (.int ns.sum)) := fun G H σ vs Q E pv k => by
  obtain ⟨v, rfl, h⟩ := paired1 pv
  obtain ⟨p, vs, rfl, alt, al⟩ := seq_of E h va rfl
  rcases alt with ⟨_, q⟩ | ⟨e, _⟩
  · rw [dpa_ints al] at q
    exact ⟨p, ns, rfl, .inl q, k _ H G Step.refl E (.int _)⟩
  · cases e
end
theorem de_abs {i : Int} (ha : PE X a (tD X.K F Γ (.dat (.int i)) Γ1)) (hm : X.mg "abs" = none) (hg : Gl X "abs" := by rfl) (he : starEach [a] X.env = (false, eval a X.env) :: starEach [] X.env := by rfl) : PE X (.Call (.Name "abs" p) [a] [] pos) (tD X.K F Γ (.dat (.int (i.natAbs : Int))) Γ1) :=
  de_callB call_abs rc_abs (da_cons ha da_nil he) hm (by decide +kernel) hg (he := he)
theorem de_len (ha : PE X a (tD X.K F Γ ra Γ1)) (hm : X.mg "len" = none) (va : vw Γ1 ra = some da := by rfl) (hs : sqOf da = some ds := by rfl) (hg : Gl X "len" := by rfl) (he : starEach [a] X.env = (false, eval a X.env) :: starEach [] X.env := by rfl) : PE X (.Call (.Name "len" p) [a] [] pos) (tD X.K F Γ (.dat (.int (ds.length : Int))) Γ1) :=
  de_callB call_len_seq (rc_len va hs) (da_cons ha da_nil he) hm PySem.boot_len hg (he := he)
theorem de_tuple (ha : PE X a (tD X.K F Γ ra Γ1)) (hm : X.mg "tuple" = none) (va : vw Γ1 ra = some da := by rfl) (hs : sqOf da = some ds := by rfl) (hg : Gl X "tuple" := by rfl) (he : starEach [a] X.env = (false, eval a X.env) :: starEach [] X.env := by rfl) : PE X (.Call (.Name "tuple" p) [a] [] pos) (tD X.K F Γ (.dat (.tuple ds)) Γ1) :=
  de_callTy call_tuple_of (rc_tuple va hs) (da_cons ha da_nil he) hm (by decide +kernel) hg (he := he)
theorem dn_list (ha : PE X a (tD X.K F Γ ra Γ1)) (hm : X.mg "list" = none) (va : vw Γ1 ra = some da := by rfl) (hs : sqOf da = some ds := by rfl) (hg : Gl X "list" := by rfl) (he : starEach [a] X.env = (false, eval a X.env) :: starEach [] X.env := by rfl) : PE X (.Call (.Name "list" p) [a] [] pos) (tN X.K F Γ ds Γ1) :=
  dn_callTy call_list_of (rc_list va hs) (da_cons ha da_nil he) hm (by decide +kernel) hg (he := he)
theorem de_all {bs : List Bool} (ha : PE X a (tD X.K F Γ ra Γ1)) (hm : X.mg "all" = none) (va : vw Γ1 ra = some (.list (bs.map .bool)) := by rfl) (hc : X.calm = true := by rfl) (hg : Gl X "all" := by rfl) (he : starEach [a] X.env = (false, eval a X.env) :: starEach [] X.env := by rfl) : PE X (.Call (.Name "all" p) [a] [] pos) (tD X.K F Γ (.dat (.bool (bs.all id))) Γ1) :=
  de_callB (cr_all hc) (rc_all va) (da_cons ha da_nil he) hm (by decide +kernel) hg (he := he)
theorem de_any {bs : List Bool} (ha : PE X a (tD X.K F Γ ra Γ1)) (hm : X.mg "any" = none) (va : vw Γ1 ra = some (.list (bs.map .bool)) := by rfl) (hc : X.calm = true := by rfl) (hg : Gl X "any" := by rfl) (he : starEach [a] X.env = (false, eval a X.env) :: starEach [] X.env := by rfl) : PE X (.Call (.Name "any" p) [a] [] pos) (tD X.K F Γ (.dat (.bool (bs.any id))) Γ1) :=
  de_callB (cr_any hc) (rc_any va) (da_cons ha da_nil he) hm (by decide +kernel) hg (he := he)
theorem de_sum {ns : List Int} (ha : PE X a (tD X.K F Γ ra Γ1)) (hm : X.mg "sum" = none) (va : vw Γ1 ra = some (.list (ns.map .int)) := by rfl) (hc : X.calm = true := by rfl) (hg : Gl X "sum" := by rfl) (he : starEach [a] X.env = (false, eval a X.env) :: starEach [] X.env := by rfl) : PE X (.Call (.Name "sum" p) [a] [] pos) (tD X.K F Γ (.dat (.int ns.sum)) Γ1) :=
  de_callB (cr_sum hc) (rc_sum va) (da_cons ha da_nil he) hm (by decide +kernel) hg (he := he)
theorem de_max2 {i j : Int} (ha : PE X a (tD X.K F Γ (.dat (.int i)) Γ1)) (hb : PE X b (tD X.K F Γ1 (.dat (.int j)) Γ2)) (hm : X.mg "max" = none) (hc : X.calm = true := by rfl) (hg : Gl X "max" := by rfl) (he : starEach [a, b] X.env = (false, eval a X.env) :: starEach [b] X.env := by rfl) (he2 : starEach [b] X.env = (false, eval b X.env) :: starEach [] X.env := by rfl) (hpl : (backTo pos (starEach [b] X.env)).any (·.1) = false := by rfl) :
    PE X (.Call (.Name "max" p) [a, b] [] pos) (tD X.K F Γ (.dat (.int (max i j))) Γ2) := de_callB (call_max2 hc) rc_max2 (da_cons ha (da_cons hb da_nil he2) he) hm (by decide +kernel) hg (he := he) (hpl := hpl)
theorem de_min2 {i j : Int} (ha : PE X a (tD X.K F Γ (.dat (.int i)) Γ1)) (hb : PE X b (tD X.K F Γ1 (.dat (.int j)) Γ2)) (hm : X.mg "min" = none) (hc : X.calm = true := by rfl) (hg : Gl X "min" := by rfl) (he : starEach [a, b] X.env = (false, eval a X.env) :: starEach [b] X.env := by rfl) (he2 : starEach [b] X.env = (false, eval b X.env) :: starEach [] X.env := by rfl) (hpl : (backTo pos (starEach [b] X.env)).any (·.1) = false := by rfl) :
    PE X (.Call (.Name "min" p) [a, b] [] pos) (tD X.K F Γ (.dat (.int (min i j))) Γ2) := de_callB (call_min2 hc) rc_min2 (da_cons ha (da_cons hb da_nil he2) he) hm (by decide +kernel) hg (he := he) (hpl := hpl)
theorem de_intB {k : Bool} (ha : PE X a (tD X.K F Γ (.dat (.bool k)) Γ1)) (hm : X.mg "int" = none) (hg : Gl X "int" := by rfl) (he : starEach [a] X.env = (false, eval a X.env) :: starEach [] X.env := by rfl) : PE X (.Call (.Name "int" p) [a] [] pos) (tD X.K F Γ (.dat (.int (if k then 1 else 0))) Γ1) :=
  de_callTy call_int1 rc_int1 (da_cons ha da_nil he) hm (by decide +kernel) hg (he := he)
def tyD : PyData → String
  | .none => "NoneType"
  | .bool _ => "bool"
  | .int _ => "int"
  | .str _ => "str"
  | .list _ => "list"
  | .tuple _ => "tuple"
  | .dict _ => "dict"
theorem dq_ty {K : PySem.W.Frag} {H : Hp} {v : V} (h : Dq K H v d) : TyX K H v (.type (tyD d)) := by
  cases h with
  | non => exact .base .non
  | bl b => exact .base (.bl b)
  | int i => exact .base (.int i)
  | str x => exact .base (.str x)
  | lst q _ => exact .base (.lst q)
  | tup q _ =>
    rcases q with (q | ⟨o, q⟩) | ⟨o, its, n, h1, h2, _⟩
    · exact .base (.tup q)
    · exact .fTuple q
    · exact .kTuple h1 h2
def isiD (T : String) (d : PyData) : Bool := (kitB (tyD d) T).getD false
theorem kit_isi (T : String) (hT : T = "int" ∨ T = "bool" ∨ T = "str" ∨ T = "list" ∨ T = "tuple") (d : PyData) : kitB (tyD d) T = some (isiD T d) := by
  have key : ∀ T ∈ ["int", "bool", "str", "list", "tuple"], ∀ U ∈ ["NoneType", "bool", "int", "str", "list", "tuple", "dict"], kitB U T = some ((kitB U T).getD false) := by decide +kernel
  have hU : tyD d ∈ ["NoneType", "bool", "int", "str", "list", "tuple", "dict"] := by cases d <;> simp [tyD]
  exact key T (by rcases hT with h | h | h | h | h <;> simp [h]) _ hU
def isI : PyData → Bool
  | .bool _ => true
  | .int _ => true
  | _ => false
def isB : PyData → Bool
  | .bool _ => true
  | _ => false
def isS : PyData → Bool
  | .str _ => true
  | _ => false
def isL : PyData → Bool
  | .list _ => true
  | _ => false
def isT : PyData → Bool
  | .tuple _ => true
  | _ => false
theorem isi_int (d : PyData) : isiD "int" d = isI d := by
  cases d with
  | none => exact (by decide +kernel : (kitB "NoneType" "int").getD false = false)
  | bool b => exact (by decide +kernel : (kitB "bool" "int").getD false = true)
  | int i => exact (by decide +kernel : (kitB "int" "int").getD false = true)
  | str x => exact (by decide +kernel : (kitB "str" "int").getD false = false)
  | list l => exact (by decide +kernel : (kitB "list" "int").getD false = false)
  | tuple l => exact (by decide +kernel : (kitB "tuple" "int").getD false = false)
  | dict l => exact (by decide +kernel : (kitB "dict" "int").getD false = false)
theorem isi_bool (d : PyData) : isiD "bool" d = isB d := by
  cases d with
  | none => exact (by decide +kernel : (kitB "NoneType" "bool").getD false = false)
  | bool b => exact (by decide +kernel : (kitB "bool" "bool").getD false = true)
  | int i => exact (by decide +kernel : (kitB "int" "bool").getD false = false)
  | str x => exact (by decide +kernel : (kitB "str" "bool").getD false = false)
  | list l => exact (by decide +kernel : (kitB "list" "bool").getD false = false)
  | tuple l => exact (by decide +kernel : (kitB "tuple" "bool").getD false = false)
  | dict l => exact (by decide +kernel : (kitB "dict" "bool").getD false = false)
theorem isi_str (d : PyData) : isiD "str" d = isS d := by
  cases d with
  | none => exact (by decide +kernel : (kitB "NoneType" "str").getD false = false)
  | bool b => exact (by decide +kernel : (kitB "bool" "str").getD false = false)
  | int i => exact (by decide +kernel : (kitB "int" "str").getD false = false)
  | str x => exact (by decide +kernel : (kitB "str" "str").getD false = true)
  | list l => exact (by decide +kernel : (kitB "list" "str").getD false = false)
  | tuple l => exact (by decide +kernel : (kitB "tuple" "str").getD false = false)
  | dict l => exact (by decide +kernel : (kitB "dict" "str").getD false = false)
theorem isi_list (d : PyData) : isiD "list" d = isL d := by
  cases d with
  | none => exact (by decide +kernel : (kitB "NoneType" "list").getD false = false)
  | bool b => exact (by decide +kernel : (kitB "bool" "list").getD false = false)
  | int i => exact (by decide +kernel : (kitB "int" "list").getD false = false)
  | str x => exact (by decide +kernel : (kitB "str" "list").getD false = false)
  | list l => exact (by decide +kernel : (kitB "list" "list").getD false = true)
  | tuple l => exact (by decide +kernel : (kitB "tuple" "list").getD false = false)
  | dict l => exact (by decide +kernel : (kitB "dict" "list").getD false = false)
theorem isi_tuple (d : PyData) : isiD "tuple" d = isT d := by
  cases d with
  | none => exact (by decide +kernel : (kitB "NoneType" "tuple").getD false = false)
  | bool b => exact (by decide +kernel : (kitB "bool" "tuple").getD false = false)
  | int i => exact (by decide +kernel : (kitB "int" "tuple").getD false = false)
  | str x => exact (by decide +kernel : (kitB "str" "tuple").getD false = false)
  | list l => exact (by decide +kernel : (kitB "list" "tuple").getD false = false)
  | tuple l => exact (by decide +kernel : (kitB "tuple" "tuple").getD false = true)
  | dict l => exact (by decide +kernel : (kitB "dict" "tuple").getD false = false)
theorem de_isi (T : String) (hT : T = "int" ∨ T = "bool" ∨ T = "str" ∨ T = "list" ∨ T = "tuple") {t : Str} (ha : PE X a (tD X.K F Γ ra Γ1)) (hm : X.mg "isinstance" = none) (hmT : X.mg t = none) (hvT : bootBuiltins t = some (.type T)) (va : vw Γ1 ra = some da := by rfl)
    (hg : Gl X "isinstance" := by rfl) (hgT : Gl X t := by rfl) (hn : t ≠ "__name__" := by decide) (hdb : (t == ("__debug__" : Str)) = false := by decide)
    (he : starEach [a, .Name t p2] X.env = (false, eval a X.env) :: starEach [.Name t p2] X.env := by rfl) (he2 : starEach [.Name t p2] X.env = (false, eval (.Name t p2) X.env) :: starEach [] X.env := by rfl) (hpl : (backTo pos (starEach [.Name t p2] X.env)).any (·.1) = false := by rfl) :
    PE X (.Call (.Name "isinstance" p) [a, .Name t p2] [] pos) (tD X.K F Γ (.dat (.bool (isiD T da))) Γ1) := by
  have hA : PA X [a, .Name t p2] _ := pa_cons ha (pa_cons (pe_bltn (v := .ty T) (pos := p2) hgT hmT hvT rfl hn hdb) pa_nil he2) he
  refine pe_imp (pe_callB call_isi hg hm (by decide +kernel) hA (he := he) (hpl := hpl)) fun σ H Q ⟨G, E, q⟩ => ⟨G, E, fun v H1 G1 s1 E1 v1 => ?_⟩
  exact ⟨v, .ty T, _, _, _, rfl, .ty T, dq_ty (E1.view v1 va), kit_ty (kit_isi T hT da), q _ H1 G1 s1 E1 (.bl _)⟩
structure TyN (X : Cx) (t : Str) (T : String) : Prop where
  ok : T = "int" ∨ T = "bool" ∨ T = "str" ∨ T = "list" ∨ T = "tuple"
  mg : X.mg t = none
  bt : bootBuiltins t = some (.type T)
theorem kitAny_isi {K : PySem.W.Frag} (d : PyData) : ∀ (Ts : List String), (∀ T ∈ Ts, T = "int" ∨ T = "bool" ∨ T = "str" ∨ T = "list" ∨ T = "tuple") → PySem.W.kitAny K (.type (tyD d)) (Ts.map Value.type) = some (Ts.any fun T => isiD T d)
  | [], _ => rfl
  | T :: Ts, h => by
    have h1 := kit_isi T (h T List.mem_cons_self) d
    have h2 := kitAny_isi (K := K) d Ts fun T' m => h T' (List.mem_cons_of_mem _ m)
    refine kitAny_cons (kit_ty h1) (fun e => ?_) (fun e => ?_)
    · rw [h2, List.any_cons, e, Bool.false_or]
    · rw [List.any_cons, e, Bool.true_or]
theorem paired_ty : ∀ Ts : List String, Paired ClsV (Ts.map V.ty) (Ts.map Value.type)
  | [] => .nil
  | T :: Ts => .cons (.ty T) (paired_ty Ts)
theorem de_isi3 (T1 T2 T3 : String) {t1 t2 t3 : Str} {q1 q2 q3 : Pos} {kk : Nat} (h1 : TyN X t1 T1) (h2 : TyN X t2 T2) (h3 : TyN X t3 T3) (ha : PE X a (tD X.K F Γ ra Γ1)) (hm : X.mg "isinstance" = none) (va : vw Γ1 ra = some da := by rfl)
    (hg : Gl X "isinstance" := by rfl) (hg1 : Gl X t1 := by rfl) (hg2 : Gl X t2 := by rfl) (hg3 : Gl X t3 := by rfl) (hn : t1 ≠ "__name__" ∧ t2 ≠ "__name__" ∧ t3 ≠ "__name__" := by decide) (hdb : (t1 == ("__debug__" : Str)) = false ∧ (t2 == ("__debug__" : Str)) = false ∧ (t3 == ("__debug__" : Str)) = false := by decide)
    (he : starEach [a, .Tuple [.Name t1 q1, .Name t2 q2, .Name t3 q3] kk p2] X.env = (false, eval a X.env) :: starEach [.Tuple [.Name t1 q1, .Name t2 q2, .Name t3 q3] kk p2] X.env := by rfl) (he2 : starEach [.Tuple [.Name t1 q1, .Name t2 q2, .Name t3 q3] kk p2] X.env = (false, eval (.Tuple [.Name t1 q1, .Name t2 q2, .Name t3 q3] kk p2) X.env) :: starEach [] X.env := by rfl)
    (he3 : starEach [.Name t1 q1, .Name t2 q2, .Name t3 q3] X.env = (false, eval (.Name t1 q1) X.env) :: starEach [.Name t2 q2, .Name t3 q3] X.env := by rfl) (he4 : starEach [.Name t2 q2, .Name t3 q3] X.env = (false, eval (.Name t2 q2) X.env) :: starEach [.Name t3 q3] X.env := by rfl) (he5 : starEach [.Name t3 q3] X.env = (false, eval (.Name t3 q3) X.env) :: starEach [] X.env := by rfl)
    (hpl : (backTo pos (starEach [.Tuple [.Name t1 q1, .Name t2 q2, .Name t3 q3] kk p2] X.env)).any (·.1) = false := by rfl) :
    PE X (.Call (.Name "isinstance" p) [a, .Tuple [.Name t1 q1, .Name t2 q2, .Name t3 q3] kk p2] [] pos) (tD X.K F Γ (.dat (.bool ([T1, T2, T3].any fun T => isiD T da))) Γ1) := by
  have hT : PE X (.Tuple [.Name t1 q1, .Name t2 q2, .Name t3 q3] kk p2) _ := pe_tup (pa_cons (pe_bltn (v := .ty T1) hg1 h1.mg h1.bt rfl hn.1 hdb.1) (pa_cons (pe_bltn (v := .ty T2) hg2 h2.mg h2.bt rfl hn.2.1 hdb.2.1) (pa_cons (pe_bltn (v := .ty T3) hg3 h3.mg h3.bt rfl hn.2.2 hdb.2.2) pa_nil he5) he4) he3)
  have hA : PA X [a, .Tuple [.Name t1 q1, .Name t2 q2, .Name t3 q3] kk p2] _ := pa_cons ha (pa_cons hT pa_nil he2) he
  refine pe_imp (pe_callB call_isiT hg hm (by decide +kernel) hA (he := he) (hpl := hpl)) fun σ H Q ⟨G, E, q⟩ => ⟨G, E, fun v H1 G1 s1 E1 v1 => ⟨by show 3 ≤ sizeLine; decide, fun tp htp => ?_⟩⟩
  have E2 := E1.newRaw (o := .tup [.ty T1, .ty T2, .ty T3]) htp
  refine ⟨v, tp, [T1, T2, T3].map V.ty, _, [T1, T2, T3].map Value.type, _, rfl, upd_same, paired_ty _, dq_ty (E2.view v1 va), kitAny_isi da [T1, T2, T3] ?_, q _ _ G1 (s1.trans (Step.newRaw htp)) E2 (.bl _)⟩
  intro T m
  rcases List.mem_cons.mp m with rfl | m
  · exact h1.ok
  · rcases List.mem_cons.mp m with rfl | m
    · exact h2.ok
    · rcases List.mem_cons.mp m with rfl | m
      · exact h3.ok
      · cases m
section
variable {K : PySem.W.Frag} {as bs : List PyData}
theorem dpa_nil_iff {G : Hp} {vs : List V} {ds : List PyData} (h : DqAll K G vs ds) : vs = [] ↔ ds = [] := by
  constructor
  · rintro rfl; cases h; rfl
  · rintro rfl; cases h; rfl
theorem rd_catT (hl : as.length + bs.length ≤ 100000) : RD2 K F Γ (rCatA K) (.dat (.tuple as)) (.dat (.tuple bs)) (.dat (.tuple (as ++ bs))) := fun G H σ x y Q E vx vy k => by
  obtain ⟨p1, v1, rfl, q1, a1⟩ := dp_tup vx
  obtain ⟨p2, v2, rfl, q2, a2⟩ := dp_tup vy
  refine ⟨p1, p2, v1, v2, rfl, rfl, sqT_mono E.le q1, sqT_mono E.le q2, ?_, fun e => ?_, fun _ e => ?_, fun _ _ l hl' => ?_⟩
  · rw [dpa_len a1, dpa_len a2]; exact Nat.le_trans hl (by decide)
  · have : as = [] := (dpa_nil_iff a1).mp e
    subst this
    exact k _ H G Step.refl E vy
  · have : bs = [] := (dpa_nil_iff a2).mp e
    subst this
    rw [List.append_nil] at k
    exact k _ H G Step.refl E vx
  · have g := (E.no hl').2.2
    exact k _ _ _ (Step.newDat hl' g) (E.newDat hl') (.tup (SqT.of upd_same) (dpa_mono (same_upd g) _ _ (dpa_app a1 a2)))
theorem dpa_flat {G : Hp} {vs : List V} {ds : List PyData} (h : DqAll K G vs ds) : ∀ n : Nat, DqAll K G (List.replicate n vs).flatten (List.replicate n ds).flatten
  | 0 => .nil
  | n + 1 => by
    rw [List.replicate_succ, List.replicate_succ, List.flatten_cons, List.flatten_cons]
    exact dpa_app h (dpa_flat h n)
def rCatR : R2 := fun x y H Q => ∃ l b xs zs, x = .ref l ∧ y = .ref b ∧ Rd H l (.lst xs) ∧ Rd H b (.lst zs) ∧ xs.length + zs.length ≤ sizeLine ∧ ∀ p, H p = none → Q (.ref p) (upd H p (.lst (xs ++ zs)))
theorem inv_rd {pins : List (Addr × Obj)} {σ : L2.St} {H : Hp} {s : Shared} (I : Inv X pins σ H s) {l : Addr} {xs : List V} (h : Rd H l (.lst xs)) : xs.length ≤ sizeLine ∧ ∃ (its : List Value) (n : Nat), Vals xs its ∧ xs.length = its.length ∧ s.heap.get? l = some { cls := .type "list", data := .seq its.toArray n } := by
  obtain ⟨z, its, n, r, e⟩ := h.ok I.hok
  exact ⟨z, its, n, r, r.length, e⟩
theorem op_catR : OpR X (binaryOp .Add) rCatR := by
  intro pins s σ H x y v u Q I rx ry h
  obtain ⟨l, b, xs, zs, rfl, rfl, hH, hB, hz, q⟩ := h
  cases rx
  cases ry
  obtain ⟨z, its, n, r, hl, e⟩ := inv_rd I hH
  obtain ⟨z2, its2, n2, r2, hl2, e2⟩ := inv_rd I hB
  refine PySem.P.add_list e e2 ?_ (by rw [List.size_toArray, List.size_toArray]; omega)
  have ea : its.toArray ++ its2.toArray = (its ++ its2).toArray := by simp
  rw [ea]
  exact ⟨.ref _, _, I.lnew (t' := s.toks) (r.append r2) (by rw [List.length_append]; omega), rfl, q _ I.fresh⟩
theorem rn_cat (va : vw Γ ra = some (.list as)) (vb : vw Γ rb = some (.list bs)) (hl : as.length + bs.length ≤ 100000) : RN2 K F Γ rCatR ra rb (as ++ bs) := fun G H σ x y Q E vx vy k => by
  obtain ⟨p1, v1, rfl, alt1, a1⟩ := seq_of E vx va rfl
  obtain ⟨p2, v2, rfl, alt2, a2⟩ := seq_of E vy vb rfl
  have r1 : Rd H p1 (.lst v1) := by
    rcases alt1 with ⟨_, q⟩ | ⟨e, _⟩
    · exact q
    · cases e
  have r2 : Rd H p2 (.lst v2) := by
    rcases alt2 with ⟨_, q⟩ | ⟨e, _⟩
    · exact q
    · cases e
  exact ⟨p1, p2, v1, v2, rfl, rfl, r1, r2, by rw [dpa_len a1, dpa_len a2]; exact Nat.le_trans hl (by decide), fun l hl' => k l _ _ G (Step.newRaw hl') (E.newRaw hl') (fre_of Step.refl E hl') (E.no hl').2.2 upd_same (dpa_app a1 a2)⟩
end
theorem de_catT {as bs : List PyData} (ha : PE X a (tD X.K F Γ (.dat (.tuple as)) Γ1)) (hb : PE X b (tD X.K F Γ1 (.dat (.tuple bs)) Γ2)) (hl : as.length + bs.length ≤ 100000) : PE X (.BinOp a .Add b pos) (tD X.K F Γ (.dat (.tuple (as ++ bs))) Γ2) := de_op op_catA (rd_catT hl) ha hb
theorem dn_cat {as bs : List PyData} (ha : PE X a (tD X.K F Γ ra Γ1)) (hb : PE X b (tD X.K F Γ1 rb Γ2)) (hl : as.length + bs.length ≤ 100000) (va : vw Γ2 ra = some (.list as) := by rfl) (vb : vw Γ2 rb = some (.list bs) := by rfl) : PE X (.BinOp a .Add b pos) (tN X.K F Γ (as ++ bs) Γ2) := dn_op op_catR (rn_cat va vb hl) ha hb
def cutD (xs : List PyData) (lo hi : Option Int) : List PyData := (xs.drop (HT.sIx xs.length 0 lo)).take (HT.sIx xs.length xs.length hi - HT.sIx xs.length 0 lo)
theorem dpa_cut {K : PySem.W.Frag} {G : Hp} {vs : List V} {ds : List PyData} (h : DqAll K G vs ds) (lo hi : Option Int) : DqAll K G (cutV vs lo hi) (cutD ds lo hi) := by
  unfold cutV cutD
  rw [dpa_len h]
  exact dpa_take _ (dpa_drop _ h)
def tDO (K : PySem.W.Frag) (F : Fx) (Γ : List Sl) (o : Option Int) (Γ' : List Sl) : TO := fun σ H Q => ∃ G, En K F G σ H Γ ∧ ∀ H' G', Step σ Γ Γ' G H G' H' → En K F G' σ H' Γ' → Q o H'
theorem do_none : PO X none (tDO X.K F Γ none Γ) := ⟨fun pins s σ H Q I ⟨G, E, q⟩ => po_none.run pins s σ H Q I (q H G Step.refl E)⟩
theorem do_some {i : Int} (h : PE X e (tD X.K F Γ (.dat (.int i)) Γ1)) : PO X (some e) (tDO X.K F Γ (some i) Γ1) := ⟨fun pins s σ H Q I ⟨G, E, q⟩ => (po_some h).run pins s σ H Q I ⟨G, E, fun v H1 G1 s1 E1 v1 => ⟨i, dp_int v1, q H1 G1 s1 E1⟩⟩⟩
theorem dn_slL {lo hi : Option Expr} {l h : Option Int} {Γ3 : List Sl} (ha : PE X a (tD X.K F Γ ra Γ1)) (hl : PO X lo (tDO X.K F Γ1 l Γ2)) (hh : PO X hi (tDO X.K F Γ2 h Γ3)) (va : vw Γ3 ra = some (.list ds) := by rfl) : PE X (.Subscript a (.Slice lo hi none p2) pos) (tN X.K F Γ (cutD ds l h) Γ3) :=
  pe_imp (pe_slice sl_list ha hl hh) fun σ H Q ⟨G, E, q⟩ => ⟨G, E, fun v H1 G1 s1 E1 v1 => ⟨G1, E1, fun H2 G2 s2 E2 => ⟨G2, E2, fun H3 G3 s3 E3 => by
    obtain ⟨p1, vs, rfl, alt, al⟩ := seq_of E3 ((v1.mono s2.g).mono s3.g) va rfl
    have r1 : Rd H3 p1 (.lst vs) := by
      rcases alt with ⟨_, z⟩ | ⟨z, _⟩
      · exact z
      · cases z
    exact ⟨p1, vs, rfl, .inl r1, fun l' hl' => q l' _ _ G3 (((s1.trans s2).trans s3).trans (Step.newRaw hl')) (E3.newRaw hl') (fre_of ((s1.trans s2).trans s3) E3 hl') (E3.no hl').2.2 upd_same (dpa_cut al _ _)⟩⟩⟩⟩
theorem cut_whole {α : Type} (xs : List α) {i j : Nat} (h1 : i = 0) (h2 : j = xs.length) : (xs.drop i).take (j - i) = xs := by
  subst h1 h2; simp
theorem de_slT {lo hi : Option Expr} {l h : Option Int} {Γ3 : List Sl} (ha : PE X a (tD X.K F Γ (.dat (.tuple ds)) Γ1)) (hl : PO X lo (tDO X.K F Γ1 l Γ2)) (hh : PO X hi (tDO X.K F Γ2 h Γ3)) : PE X (.Subscript a (.Slice lo hi none p2) pos) (tD X.K F Γ (.dat (.tuple (cutD ds l h))) Γ3) :=
  pe_imp (pe_slice sl_tupA ha hl hh) fun σ H Q ⟨G, E, q⟩ => ⟨G, E, fun v H1 G1 s1 E1 v1 => ⟨G1, E1, fun H2 G2 s2 E2 => ⟨G2, E2, fun H3 G3 s3 E3 => by
    have v3 : Dq X.K G3 v (.tuple ds) := dp_mono (s2.g.trans s3.g) _ _ v1
    obtain ⟨p1, vs, rfl, hq, al⟩ := dp_tup v3
    refine ⟨p1, vs, rfl, sqT_mono E3.le hq, fun w => ?_, fun _ l' hl' => ?_⟩
    · have e : cutD ds l h = ds := by
        unfold cutD
        rw [dpa_len al] at w
        exact cut_whole ds w.1 w.2
      rw [e] at q
      exact q _ H3 G3 ((s1.trans s2).trans s3) E3 v3
    · have g := (E3.no hl').2.2
      exact q _ _ _ (((s1.trans s2).trans s3).trans (Step.newDat hl' g)) (E3.newDat hl') (.tup (SqT.of upd_same) (dpa_mono (same_upd g) _ _ (dpa_cut al _ _)))⟩⟩⟩
theorem dn_revL {k : Nat} {p1 p3 : Pos} (ha : PE X a (tD X.K F Γ ra Γ1)) (va : vw Γ1 ra = some (.list ds) := by rfl) : PE X (.Subscript a (.Slice none none (some (.UnaryOp .USub (.Constant (.int 1) k p1) p2)) p3) pos) (tN X.K F Γ ds.reverse Γ1) :=
  pe_imp (pe_revL ha) fun σ H Q ⟨G, E, q⟩ => ⟨G, E, fun v H1 G1 s1 E1 v1 => by
    obtain ⟨p1, vs, rfl, alt, al⟩ := seq_of E1 v1 va rfl
    have r1 : Rd H1 p1 (.lst vs) := by
      rcases alt with ⟨_, z⟩ | ⟨z, _⟩
      · exact z
      · cases z
    exact ⟨p1, vs, rfl, .inl r1, fun l' hl' => q l' _ _ G1 (s1.trans (Step.newRaw hl')) (E1.newRaw hl') (fre_of s1 E1 hl') (E1.no hl').2.2 upd_same (dpa_rev al)⟩⟩
theorem own_at {K : PySem.W.Frag} {G H : Hp} {σ : L2.St} (E : En K F G σ H Γ) {i : Nat} (h : lk Γ i = .own xs) : ∃ p vs, σ[i]? = some (some (.ref p)) ∧ G p = none ∧ H p = some (.lst vs) ∧ DqAll K G vs xs := by
  have s := E.sl i
  rw [h] at s
  obtain ⟨p, vs, e, g, hp, ha, _⟩ := s
  exact ⟨p, vs, e, g, hp, ha⟩
theorem ds_item {i : Nat} {k : Int} {j : Nat} {o ix : Expr} {Γ3 : List Sl} (he : PE X e (tD X.K F Γ (.dat d) Γ1)) (ho : PE X o (tD X.K F Γ1 (.al i) Γ2)) (hi : PE X ix (tD X.K F Γ2 (.dat (.int k)) Γ3)) (hj : ixN xs.length k = some j)
    (hr : PSs X rest (tS X.K F W (st Γ3 i (.own (xs.set j d))) P)) (hl : lk Γ3 i = .own xs := by rfl)
    (ha : ∀ v, assign (.Subscript o ix pos') X.env v = (do
      let ov ← holding [v] (eval o X.env)
      let iv ← holding [v, ov] (eval ix X.env)
      standAt pos'
      holding [v, ov, iv] (setItem ov iv v)
      release [v, ov, iv] []) := by intro _; rfl)
    (hs : swapsWithSole [.Subscript o ix pos'] e pos.line X.env = pure false := by rfl) (hw : swappedStores [.Subscript o ix pos'] e X.env = pure none := by rfl)
    (h1 : (assignEach [.Subscript o ix pos'] X.env).map (·.2) = [assign (.Subscript o ix pos') X.env] := by rfl) :
    PSs X (.Assign [.Subscript o ix pos'] e pos :: rest) (tS X.K F W Γ P) :=
  ds_seq (ps_imp (ps_asg he (pg_sub ho hi set_list ha) hs hw h1) fun D σ H ⟨G, E, q, _⟩ => ⟨G, E, fun v H1 G1 s1 E1 v1 => ⟨G1, E1, fun ov H2 G2 s2 E2 v2 => ⟨G2, E2, fun iv H3 G3 s3 E3 v3 => by
    obtain ⟨p, vs, es, g, hp, al⟩ := own_at E3 hl
    have v2 : σ[i]? = some (some ov) := v2
    rw [es] at v2
    have : V.ref p = ov := Option.some.inj (Option.some.inj v2)
    subst this
    refine ⟨p, vs, k, j, rfl, dp_int v3, hp, by rw [dpa_len al]; exact hj, ?_⟩
    have hd3 : Dq X.K G3 v d := dp_mono (s2.g.trans s3.g) _ _ v1
    exact q _ _ _ G3 hr ((s1.trans s2).trans s3).g (E3.write hl es (dpa_set j al hd3))⟩⟩⟩)
theorem ds_append {i : Nat} {o : Expr} {apos epos : Pos} (ho : PE X o (tD X.K F Γ (.al i) Γ1)) (he : PE X e (tD X.K F Γ1 (.dat d) Γ2)) (hz : xs.length < 100000)
    (hr : PSs X rest (tS X.K F W (st Γ2 i (.own (xs ++ [d]))) P)) (hl1 : lk Γ1 i = .own ds := by rfl) (hl : lk Γ2 i = .own xs := by rfl)
    (hp : PE X (.Call (.Attribute o "append" apos) [e] [] epos) (tBM X.K "list" rAppend (tD X.K F Γ (.al i) Γ1) (tCons (tD X.K F Γ1 (.dat d) Γ2) tNil))) (hs : swapsWith (.Call (.Attribute o "append" apos) [e] [] epos) none pos.line X.env = pure false := by rfl) :
    PSs X (.Expr (.Call (.Attribute o "append" apos) [e] [] epos) pos :: rest) (tS X.K F W Γ P) :=
  ds_seq (ps_imp (ps_expr hp hs) fun D σ H ⟨G, E, q, _⟩ => ⟨G, E, fun ov H1 G1 s1 E1 v1 => by
    obtain ⟨p, vs, es, g, hp, al⟩ := own_at E1 hl1
    have v1 : σ[i]? = some (some ov) := v1
    rw [es] at v1
    have : V.ref p = ov := Option.some.inj (Option.some.inj v1)
    subst this
    refine ⟨Or.inl ⟨rfl, vs, .inl (.inl hp)⟩, G1, E1, fun v H2 G2 s2 E2 v2 => ?_⟩
    obtain ⟨p', vs', es', g', hp', al'⟩ := own_at E2 hl
    rw [es] at es'
    cases es'
    refine ⟨p, vs', v, rfl, rfl, hp', by rw [dpa_len al']; exact Nat.lt_of_lt_of_le hz (by decide), ?_⟩
    exact q _ _ _ G2 hr (s1.trans s2).g (E2.write hl es (dpa_app al' (.cons v2 .nil)))⟩)
theorem ds_pop {i : Nat} {o : Expr} {apos epos : Pos} (ho : PE X o (tD X.K F Γ (.al i) Γ1)) (hz : xs ≠ [])
    (hr : PSs X rest (tS X.K F W (st Γ1 i (.own xs.dropLast)) P)) (hl : lk Γ1 i = .own xs := by rfl)
    (hp : PE X (.Call (.Attribute o "pop" apos) [] [] epos) (tBM0 X.K "list" rPop (tD X.K F Γ (.al i) Γ1))) (hs : swapsWith (.Call (.Attribute o "pop" apos) [] [] epos) none pos.line X.env = pure false := by rfl) :
    PSs X (.Expr (.Call (.Attribute o "pop" apos) [] [] epos) pos :: rest) (tS X.K F W Γ P) :=
  ds_seq (ps_imp (ps_expr hp hs) fun D σ H ⟨G, E, q, _⟩ => ⟨G, E, fun ov H1 G1 s1 E1 v1 => by
    obtain ⟨p, vs, es, g, hp, al⟩ := own_at E1 hl
    have v1 : σ[i]? = some (some ov) := v1
    rw [es] at v1
    have : V.ref p = ov := Option.some.inj (Option.some.inj v1)
    subst this
    have hne : vs.length - 1 < vs.length := by
      have := dpa_len al
      cases xs with
      | nil => exact absurd rfl hz
      | cons x r => rw [this, List.length_cons]; omega
    refine ⟨Or.inl ⟨rfl, vs, .inl (.inl hp)⟩, p, vs, vs[vs.length - 1], rfl, rfl, hp, List.getElem?_eq_getElem hne, ?_⟩
    have e2 : DqAll X.K G1 vs.dropLast xs.dropLast := by
      rw [List.dropLast_eq_take, List.dropLast_eq_take, dpa_len al]
      exact dpa_take _ al
    exact q _ _ _ G1 hr s1.g (E1.write hl es e2)⟩)
end
end AM

set_option Elab.async false
set_option linter.all false
set_option maxRecDepth 100000
set_option maxHeartbeats 2000000
namespace AM
open PySem PySem.Spec PyProof.Rows L2
def wpG (Γ : List Sl) : List Nat → List Sl
  | [] => Γ
  | v :: vs => st (wpG Γ vs) v .no
theorem wpG_length (Γ : List Sl) : ∀ vs : List Nat, (wpG Γ vs).length = Γ.length
  | [] => rfl
  | v :: vs => by unfold wpG; rw [st_length, wpG_length Γ vs]
theorem lk_no (Γ : List Sl) (i : Nat) : lk (st Γ i .no) i = .no := by
  by_cases h : i < Γ.length
  · exact lk_st_same _ _ _ h
  · exact lk_big _ _ (by rw [st_length]; omega)
theorem lk_wpG {Γ : List Sl} {i : Nat} : ∀ {vs : List Nat}, i ∈ vs → lk (wpG Γ vs) i = .no
  | v :: vs, h => by
    unfold wpG
    by_cases e : v = i
    · subst e; exact lk_no _ _
    · rw [lk_st_ne _ _ _ _ e]
      exact lk_wpG ((List.mem_cons.mp h).resolve_left (Ne.symm e))
section
variable {K : PySem.W.Frag} {F : Fx} {σ : L2.St} {Γ Γ1 : List Sl} {G H : Hp}
theorem En.wipe1 (E : En K F G σ H Γ) (v : Nat) (hb : pf F v = true) : En K F G (σ.set v none) H (st Γ v .no) where
  le := E.le
  g0 := E.g0
  fr := E.fr
  base := E.base
  mu := E.mu
  sl := fun j => by
    by_cases q : v = j
    · subst q; rw [lk_no]; trivial
    · rw [lk_st_ne _ _ _ _ q, List.getElem?_set_ne q]; exact E.sl j
  nd := fun a b p xs ys e1 e2 e3 e4 => by
    have na : v ≠ a := fun q => by subst q; rw [lk_no] at e1; cases e1
    have nb : v ≠ b := fun q => by subst q; rw [lk_no] at e2; cases e2
    rw [lk_st_ne _ _ _ _ na] at e1
    rw [lk_st_ne _ _ _ _ nb] at e2
    rw [List.getElem?_set_ne na] at e3
    rw [List.getElem?_set_ne nb] at e4
    exact E.nd a b p xs ys e1 e2 e3 e4
  len := by rw [List.length_set, st_length]; exact E.len
  pin := fun q hq => by
    have ne := pf_ne hb q hq
    rw [List.getElem?_set_ne (Ne.symm ne), lk_st_ne _ _ _ _ (Ne.symm ne)]
    exact E.pin q hq
  tab := E.tab
  nt := E.nt
theorem En.wipe (E : En K F G σ H Γ) : ∀ vs : List Nat, vs.all (pf F) = true → En K F G (L2.wipe σ vs) H (wpG Γ vs)
  | [], _ => E
  | v :: vs, h => by
    rw [List.all_cons, Bool.and_eq_true] at h
    exact (E.wipe vs h.2).wipe1 v h.1
theorem En.unwipe {vs : List Nat} (E : En K F G (L2.wipe σ vs) H Γ) (h : ∀ v ∈ vs, lk Γ v = .no) : En K F G σ H Γ where
  le := E.le
  g0 := E.g0
  fr := E.fr
  base := E.base
  mu := E.mu
  sl := fun j => by
    by_cases q : j ∈ vs
    · rw [h j q]; trivial
    · have s := E.sl j
      rw [wipe_out q] at s
      exact s
  nd := fun a b p xs ys e1 e2 e3 e4 => by
    have na : a ∉ vs := fun q => by rw [h a q] at e1; cases e1
    have nb : b ∉ vs := fun q => by rw [h b q] at e2; cases e2
    exact E.nd a b p xs ys e1 e2 (by rw [wipe_out na]; exact e3) (by rw [wipe_out nb]; exact e4)
  len := by rw [← E.len, wipe_length]
  pin := fun q hq => ⟨(wipe_some (E.pin q hq).1).1, (E.pin q hq).2⟩
  tab := E.tab
  nt := E.nt
theorem En.raw (E : En K F G σ H Γ) {p : Addr} {o : HO} {us : List V} (hp : H p = some (.lst us)) (g : G p = none) (n : ¬ Own σ Γ p) (h0 : F.H0 p = none) (m : ¬ F.M p) : En K F G σ (upd H p o) Γ where
  le := fun a u e => by
    rw [upd_ne (ne_of_none e g)]; exact E.le a u e
  g0 := E.g0
  fr := E.fr
  base := fun a u nm e => by
    rw [upd_ne (ne_of_none e h0)]; exact E.base a u nm e
  mu := fun a ma => by
    obtain ⟨u, e⟩ := E.mu a ma
    exact ⟨u, by rw [upd_ne (fun z => m (by rw [← z]; exact ma))]; exact e⟩
  sl := fun i => by
    have s := E.sl i
    cases q : lk Γ i with
    | no => trivial
    | dat d => rw [q] at s; exact s
    | own xs =>
      rw [q] at s
      obtain ⟨a, vs, e, g, hp, ha, hm⟩ := s
      have ne : a ≠ p := fun z => n (by rw [← z]; exact ⟨i, xs, q, e⟩)
      exact ⟨a, vs, e, g, by rw [upd_ne ne]; exact hp, ha, hm⟩
  nd := E.nd
  len := E.len
  pin := E.pin
  tab := tabs_write E.tab hp
  nt := E.nt
theorem own_wipe {vs : List Nat} {a : Addr} (h : ∀ v ∈ vs, lk Γ v = .no) : Own (L2.wipe σ vs) Γ a ↔ Own σ Γ a := by
  constructor
  · rintro ⟨i, xs, e, es⟩
    have ni : i ∉ vs := fun q => by rw [h i q] at e; cases e
    rw [wipe_out ni] at es
    exact ⟨i, xs, e, es⟩
  · rintro ⟨i, xs, e, es⟩
    have ni : i ∉ vs := fun q => by rw [h i q] at e; cases e
    exact ⟨i, xs, e, by rw [wipe_out ni]; exact es⟩
end
theorem wipe_same {σ τ : L2.St} {vs : List Nat} (hl : τ.length = σ.length) (h : ∀ i, i ∉ vs → τ[i]? = σ[i]?) : L2.wipe τ vs = L2.wipe σ vs := by
  have no : ∀ (ρ : L2.St) (i : Nat), i ∈ vs → i < ρ.length → (L2.wipe ρ vs)[i]? = some none := by
    intro ρ i hi hlt
    have hlt' : i < (L2.wipe ρ vs).length := by rw [wipe_length]; exact hlt
    cases q : (L2.wipe ρ vs)[i]? with
    | none => rw [List.getElem?_eq_none_iff] at q; omega
    | some o =>
      cases o with
      | none => rfl
      | some v => exact absurd hi (wipe_some q).2
  apply List.ext_getElem?
  intro i
  by_cases hi : i ∈ vs
  · by_cases hlt : i < σ.length
    · rw [no σ i hi hlt, no τ i hi (by omega)]
    · rw [List.getElem?_eq_none_iff.mpr (by rw [wipe_length]; omega), List.getElem?_eq_none_iff.mpr (by rw [wipe_length]; omega)]
  · rw [wipe_out hi, wipe_out hi]; exact h i hi
structure Tgt (K : PySem.W.Frag) (F : Fx) (g : TG) (vs : List Nat) (A : PyData → List Sl → List Sl → Prop) : Prop where
  run : ∀ G H σ Γ Γ' v d (Q : L2.St → Hp → Prop), En K F G σ H Γ → Dq K G v d → A d Γ Γ' → (∀ σ', En K F G σ' H Γ' → σ'.length = σ.length → (∀ i, i ∉ vs → σ'[i]? = σ[i]?) → (∀ a, Own σ' Γ' a → Own σ Γ a) → Q σ' H) → g v σ H Q
theorem own_setDat {σ : L2.St} {Γ : List Sl} {i : Nat} {v : V} {d : PyData} {a : Addr} (hi : i < Γ.length) (h : Own (σ.set i (some v)) (st Γ i (.dat d)) a) : Own σ Γ a := by
  obtain ⟨j, xs, e1, e2⟩ := h
  by_cases q : i = j
  · subst q; rw [lk_st_same _ _ _ hi] at e1; cases e1
  · rw [lk_st_ne _ _ _ _ q] at e1
    rw [List.getElem?_set_ne q] at e2
    exact ⟨j, xs, e1, e2⟩
theorem tgt_name {K : PySem.W.Frag} {F : Fx} (i : Nat) : Tgt K F (gName i) [i] (aName F i) := ⟨fun G H σ Γ Γ' v d Q E hd ⟨e, hl, hb⟩ q => by
  subst e
  refine q _ (E.setDat hd (inb_lt hl) hb) (by rw [List.length_set]) (fun j hj => ?_) fun a h => own_setDat (inb_lt hl) h
  rw [List.getElem?_set_ne (fun z => hj (by simp [z]))]⟩
def aPair (F : Fx) (i j : Nat) : PyData → List Sl → List Sl → Prop := fun d Γ Γ' => ∃ d1 d2, d = .tuple [d1, d2] ∧ Γ' = st (st Γ i (.dat d1)) j (.dat d2) ∧ inb Γ i = true ∧ inb Γ j = true ∧ pf F i = true ∧ pf F j = true
theorem tgt_pair {K : PySem.W.Frag} {F : Fx} (i j : Nat) : Tgt K F (gTup K 2 (gCons (gName i) (gCons (gName j) gNil))) [i, j] (aPair F i j) := ⟨fun G H σ Γ Γ' v d Q E hd ⟨d1, d2, e, e2, h1, h2, b1, b2⟩ q => by
  subst e e2
  obtain ⟨p, vs, rfl, hq, ha⟩ := dp_tup hd
  cases ha with
  | cons a1 r1 =>
    cases r1 with
    | cons a2 r2 =>
      cases r2
      refine ⟨p, _, rfl, sqT_mono E.le hq, rfl, _, _, rfl, _, _, rfl, rfl, ?_⟩
      refine q _ ((E.setDat a1 (inb_lt h1) b1).setDat a2 (by rw [st_length]; exact inb_lt h2) b2) (by rw [List.length_set, List.length_set]) (fun k hk => ?_) fun a h => own_setDat (inb_lt h1) (own_setDat (by rw [st_length]; exact inb_lt h2) h)
      rw [List.getElem?_set_ne (fun z => hk (by simp [z])), List.getElem?_set_ne (fun z => hk (by simp [z]))]⟩
theorem lk_wpG_out (Γ : List Sl) {i : Nat} : ∀ {vs : List Nat}, i ∉ vs → lk (wpG Γ vs) i = lk Γ i
  | [], _ => rfl
  | v :: vs, h => by
    unfold wpG
    rw [lk_st_ne _ _ _ _ (fun z => h (by simp [z]))]
    exact lk_wpG_out Γ fun z => h (List.mem_cons_of_mem _ z)
theorem Step.out {σ σ2 : L2.St} {Γ Γt Γx : List Sl} {G H G' H' : Hp} {vs : List Nat} (s : Step σ2 Γt Γx G H G' H') (hO : ∀ a, Own σ2 Γt a → Own σ Γ a) (hag : ∀ i, i ∉ vs → σ2[i]? = σ[i]?) : Step σ Γ (wpG Γx vs) G H G' H' where
  g := s.g
  f := s.f
  k := fun a o h n t => s.k a o h (fun z => n (hO a z)) t
  o := fun a ⟨i, ys, e1, e2⟩ => by
    have ni : i ∉ vs := fun z => by rw [lk_wpG z] at e1; cases e1
    rw [lk_wpG_out _ ni] at e1
    exact hO a (s.o a ⟨i, ys, e1, by rw [hag i ni]; exact e2⟩)
  s := s.s
section
variable {X : Cx} {F : Fx} {W : WX} {Γ Γ1 Γ2 : List Sl} {P : Out → Prop} {rest body : List Stmt} {e a b c elt iter tg : Expr} {ifs : List Expr} {pos pos' : Pos} {ds xs : List PyData} {scope : Scope} {own : List (Str × Nat)} {g : TG} {A : PyData → List Sl → List Sl → Prop}
theorem pg_tgt {vs : List Nat} (T : Tgt X.K F g vs A) (h : PG X tg g) : PG X tg (tT X.K F A) :=
  ⟨fun pins s σ H v u Q I r ⟨G, d, Γ, Γ', hA, E, hd, q⟩ => h.run pins s σ H v u Q I r (T.run G H σ Γ Γ' v d Q E hd hA fun σ' E' _ _ _ => q σ' H G Same.r E')⟩
theorem pt_pair (i j : Nat) {x y : Str} {px py pt : Pos} {k : Nat} (hN : X.N.Nodup) (hi : X.N[i]? = some x := by rfl) (hj : X.N[j]? = some y := by rfl) (hx : Loc X.env.scope x := by first | exact Or.inl rfl | exact Or.inr rfl) (hy : Loc X.env.scope y := by first | exact Or.inl rfl | exact Or.inr rfl) (hc : X.calm = true := by rfl)
    (hf : X.fn x = true ∨ X.env.scope.names.lookup x = some .local := by first | exact .inl rfl | exact .inr rfl) (hf2 : X.fn y = true ∨ X.env.scope.names.lookup y = some .local := by first | exact .inl rfl | exact .inr rfl)
    (hs1 : (assignEach [.Name x px, .Name y py] X.env).map (·.2) = assign (.Name x px) X.env :: (assignEach [.Name y py] X.env).map (·.2) := by rfl) (hs2 : (assignEach [.Name y py] X.env).map (·.2) = assign (.Name y py) X.env :: (assignEach [] X.env).map (·.2) := by rfl)
    (hn : (assignEach [.Name x px, .Name y py] X.env).length = 2 := by rfl) (hst : (assignEach [.Name x px, .Name y py] X.env).findIdx? (·.1) = none := by rfl) : PG X (.Tuple [.Name x px, .Name y py] k pt) (gTup X.K 2 (gCons (gName i) (gCons (gName j) gNil))) :=
  pg_tup hc (pgs_cons (pg_name hN hi hx hf) (pgs_cons (pg_name hN hj hy hf2) pgs_nil hs2) hs1) hn hst
def LcR (X : Cx) (F : Fx) (Γ : List Sl) (elt tg iter : Expr) (ifs : List Expr) (scope : Scope) (own : List (Str × Nat)) (xs : List PyData) (Γ2 : List Sl) : Prop :=
  ∃ (wi : TI) (g : TG) (tt : TT) (te : TE), X.N.Nodup ∧ PI X tg iter wi ∧ BlkOk X.N X.env.scope scope own ∧ (∀ (s : Shared) (H : Hp) (C : Addr) (cl : List (Str × Addr)) (fp : List Addr), PG (X.blk s H scope (compEnvC scope cl C X.env) fp) tg g) ∧
    (∀ (s : Shared) (H : Hp) (C : Addr) (cl : List (Str × Addr)) (fp : List Addr), PTs (X.blk s H scope (compEnvC scope cl C X.env) fp) ifs tt) ∧ (∀ (s : Shared) (H : Hp) (C : Addr) (cl : List (Str × Addr)) (fp : List Addr), PE (X.blk s H scope (compEnvC scope cl C X.env) fp) elt te) ∧
    ∀ σ H Q, tN X.K F Γ xs Γ2 σ H Q → tLc wi g tt te (own.map (·.2)) σ H Q
theorem LcR.pe (h : LcR X F Γ elt tg iter ifs scope own xs Γ2) (hc : X.calm = true := by rfl) (hs : ∀ x, foldedSetIterable iter X.env x = pure x := by intro _; rfl) : PE X (.ListComp elt [⟨tg, iter, ifs, 0⟩] scope pos) (tN X.K F Γ xs Γ2) := by
  obtain ⟨wi, g, tt, te, hN, hi, ok, hg, ht, he, q⟩ := h
  exact pe_imp (pe_lc hc hN hi ok hg ht he hs) q
theorem ds_setL (i : Nat) {y : Str} {py spos : Pos} (h : LcR X F Γ elt tg iter ifs scope own xs Γ2) (hr : PSs X rest (tS X.K F W (st Γ2 i (.own xs)) P)) (hN : X.N.Nodup) (hi : X.N[i]? = some y := by rfl) (hy : X.env.scope.names.lookup y = some .local := by rfl) (hl : inb Γ2 i = true := by rfl) (hb : pf F i = true := by rfl)
    (hsw : swapsWith (.ListComp elt [⟨tg, iter, ifs, 0⟩] scope pos) (some (.Name y py)) spos.line X.env = pure true := by exact sw_true rfl rfl rfl (by decide +kernel)) (hc : X.calm = true := by rfl) (hs : ∀ x, foldedSetIterable iter X.env x = pure x := by intro _; rfl) :
    PSs X (.Assign [.Name y py] (.ListComp elt [⟨tg, iter, ifs, 0⟩] scope pos) spos :: rest) (tS X.K F W Γ P) := by
  obtain ⟨wi, g, tt, te, hN', hpi, ok, hg, ht, he, q⟩ := h
  exact ds_seq (ps_imp (ps_setLc hc hN hi hy hsw hpi ok hg ht he hs) fun D σ H ⟨G, E, k, _⟩ => q σ H _ ⟨G, E, fun p vs H1 G1 s1 E1 hp g' hl' a => k (st Γ2 i (.own xs)) _ H1 G1 hr s1.g (E1.setOwn (inb_lt hl) hl' g' (own_ne s1 E hp.1) hp.2 a hb)⟩)
theorem ds_setLD (i : Nat) {y : Str} {py spos : Pos} (h : LcR X F Γ elt tg iter ifs scope own xs Γ2) (hr : PSs X rest (tS X.K F W (st Γ2 i (.dat (.list xs))) P)) (hN : X.N.Nodup) (hi : X.N[i]? = some y := by rfl) (hy : X.env.scope.names.lookup y = some .local := by rfl) (hl : inb Γ2 i = true := by rfl) (hb : pf F i = true := by rfl)
    (hsw : swapsWith (.ListComp elt [⟨tg, iter, ifs, 0⟩] scope pos) (some (.Name y py)) spos.line X.env = pure true := by exact sw_true rfl rfl rfl (by decide +kernel)) (hc : X.calm = true := by rfl) (hs : ∀ x, foldedSetIterable iter X.env x = pure x := by intro _; rfl) :
    PSs X (.Assign [.Name y py] (.ListComp elt [⟨tg, iter, ifs, 0⟩] scope pos) spos :: rest) (tS X.K F W Γ P) := by
  obtain ⟨wi, g, tt, te, hN', hpi, ok, hg, ht, he, q⟩ := h
  exact ds_seq (ps_imp (ps_setLc hc hN hi hy hsw hpi ok hg ht he hs) fun D σ H ⟨G, E, k, _⟩ => q σ H _ ⟨G, E, fun p vs H1 G1 s1 E1 hp g' hl' a => by
    have sg : Same G1 (upd G1 p (.lst vs)) := same_upd g'
    have E2 := E1.freeze hl' g' (own_ne s1 E hp.1) hp.2
    exact k (st Γ2 i (.dat (.list xs))) _ H1 _ hr (s1.g.trans sg) (E2.setDat (.lst upd_same (dpa_mono sg _ _ a)) (inb_lt hl) hb)⟩)
theorem lr_lc (V : Nat → List PyData → List Sl → Prop) (hi : PI X tg iter (tI X.K F Γ ds Γ1)) (T : Tgt X.K F g (own.map (·.2)) A) (hN : X.N.Nodup) (ok : BlkOk X.N X.env.scope scope own)
    (hg : ∀ (s : Shared) (H : Hp) (C : Addr) (cl : List (Str × Addr)) (fp : List Addr), PG (X.blk s H scope (compEnvC scope cl C X.env) fp) tg g)
    (h0 : V 0 [] (wpG Γ1 (own.map (·.2)))) (hz : ds.length < 100000)
    (turn : ∀ j d acc Γ, ds[j]? = some d → V j acc Γ → ∃ Γt k, A d Γ Γt ∧ (∀ (s : Shared) (H : Hp) (C : Addr) (cl : List (Str × Addr)) (fp : List Addr), PTs (X.blk s H scope (compEnvC scope cl C X.env) fp) ifs (tDT X.K F Γt k Γt)) ∧
      (k = false → V (j + 1) acc (wpG Γt (own.map (·.2)))) ∧ (k = true → ∃ y Γ2, (∀ (s : Shared) (H : Hp) (C : Addr) (cl : List (Str × Addr)) (fp : List Addr), PE (X.blk s H scope (compEnvC scope cl C X.env) fp) elt (tD X.K F Γt (.dat y) Γ2)) ∧ V (j + 1) (acc ++ [y]) (wpG Γ2 (own.map (·.2)))))
    (done : ∀ acc Γ, V ds.length acc Γ → acc = xs ∧ Γ = Γ2) (hpf : (own.map (·.2)).all (pf F) = true := by rfl) : LcR X F Γ elt tg iter ifs scope own xs Γ2 := by
  have ht : ∀ (s : Shared) (H : Hp) (C : Addr) (cl : List (Str × Addr)) (fp : List Addr), PTs (X.blk s H scope (compEnvC scope cl C X.env) fp) ifs (fun σ H Q => ∃ Γt k, (∀ (s : Shared) (H : Hp) (C : Addr) (cl : List (Str × Addr)) (fp : List Addr), PTs (X.blk s H scope (compEnvC scope cl C X.env) fp) ifs (tDT X.K F Γt k Γt)) ∧ tDT X.K F Γt k Γt σ H Q) :=
    fun s H C cl fp => ⟨fun pins s' σ H' Q I ⟨Γt, k, h, q⟩ => (h s H C cl fp).run pins s' σ H' Q I q⟩
  have he : ∀ (s : Shared) (H : Hp) (C : Addr) (cl : List (Str × Addr)) (fp : List Addr), PE (X.blk s H scope (compEnvC scope cl C X.env) fp) elt (fun σ H Q => ∃ Γt y Γ2, (∀ (s : Shared) (H : Hp) (C : Addr) (cl : List (Str × Addr)) (fp : List Addr), PE (X.blk s H scope (compEnvC scope cl C X.env) fp) elt (tD X.K F Γt (.dat y) Γ2)) ∧ tD X.K F Γt (.dat y) Γ2 σ H Q) :=
    fun s H C cl fp => ⟨fun pins s' σ H' Q I ⟨Γt, y, Γ2, h, q⟩ => (h s H C cl fp).run pins s' σ H' Q I q⟩
  refine ⟨_, _, _, _, hN, hi, ok, hg, ht, he, fun σ H Q ⟨G, E, q⟩ => ⟨G, E, fun J H1 G1 s1 E1 it D hD => ?_⟩⟩
  have HD := fre_of s1 E1 hD
  have d0 := E1.no hD
  have E1' := E1.newRaw (o := .lst []) hD
  have nO : ¬ Own σ Γ1 D := own_ne s1 E HD.1
  -- the state between the turns
  refine ⟨fun i m H' => m = ds.length - i ∧ i ≤ ds.length ∧ ∃ acc Γ' G' vs, V i acc Γ' ∧ (∀ v ∈ own.map (·.2), lk Γ' v = .no) ∧ Step σ Γ1 Γ' G1 H1 G' H' ∧ En X.K F G' (L2.wipe σ (own.map (·.2))) H' Γ' ∧ G' D = none ∧ H' D = some (.lst vs) ∧ DqAll X.K G' vs acc ∧ acc.length ≤ i, ?_, ?_⟩
  · refine ⟨ds.length, by simp, Nat.zero_le _, [], _, G1, [], h0, fun v hv => lk_wpG hv, ?_, E1'.wipe _ hpf, (E1.no hD).2.2, upd_same, .nil, Nat.le_refl _⟩
    exact (Step.newRaw (σ := σ) (Γ := Γ1) hD).out (fun _ z => z) (fun _ _ => rfl)
  · rintro i m H' ⟨rfl, hle, acc, Γ', G', vs, hV, hno, sp, E', gD, hD', al, hlen⟩
    have leH : Same G1 H' := fun a o h => E'.le a o (sp.g a o h)
    by_cases hlt : i < ds.length
    · refine .inr ⟨it.go i H' leH hlt, fun H'' => i + 1 ≤ ds.length ∧ ∃ acc Γ' G' vs, V (i + 1) acc Γ' ∧ (∀ v ∈ own.map (·.2), lk Γ' v = .no) ∧ Step σ Γ1 Γ' G1 H1 G' H'' ∧ En X.K F G' (L2.wipe σ (own.map (·.2))) H'' Γ' ∧ G' D = none ∧ H'' D = some (.lst vs) ∧ DqAll X.K G' vs acc ∧ acc.length ≤ i + 1, fun H'' h'' => ⟨ds.length - (i + 1), by omega, rfl, h''⟩, fun x H2 y => ?_⟩
      obtain ⟨d, hd, alt⟩ := it.yl i H' G' x H2 sp.g E'.le hlt y
      obtain ⟨Γt, k, hA, pT, hn, hy⟩ := turn i d acc Γ' hd hV
      obtain ⟨G3, s3, E3, hx, gD3, hD3⟩ : ∃ G3, (∀ τ, Step τ Γ' Γ' G' H' G3 H2) ∧ En X.K F G3 (L2.wipe σ (own.map (·.2))) H2 Γ' ∧ Dq X.K G3 x d ∧ G3 D = none ∧ H2 D = some (.lst vs) := by
        rcases alt with ⟨rfl, hx⟩ | ⟨p, o, hp, ho, rfl, hx⟩
        · exact ⟨G', fun τ => Step.refl, E', hx, gD, hD'⟩
        · have ne : D ≠ p := ne_of_none hD' hp
          exact ⟨_, fun τ => Step.newDat hp (E'.no hp).2.2, E'.newDat hp ho, hx, by rw [upd_ne ne]; exact gD, by rw [upd_ne ne]; exact hD'⟩
      refine T.run G3 H2 _ Γ' Γt x d _ E3 hx hA fun σ2 E4 hl2 hag hown => ?_
      have hag2 : ∀ i, i ∉ own.map (·.2) → σ2[i]? = σ[i]? := fun i hi => by rw [hag i hi, wipe_out hi]
      have hO : ∀ a, Own σ2 Γt a → Own σ Γ' a := fun a z => (own_wipe hno).mp (hown a z)
      have hw : L2.wipe σ2 (own.map (·.2)) = L2.wipe σ (own.map (·.2)) := wipe_same (by rw [hl2, wipe_length]) hag2
      have nOt : ¬ Own σ2 Γt D := fun z => nO (sp.o D (hO D z))
      have al3 : DqAll X.K G3 vs acc := dpa_mono (s3 σ).g _ _ al
      refine ⟨hw, Γt, k, pT, G3, E4, fun H5 G5 s5 E5 => ?_⟩
      have hD5 : H5 D = some (.lst vs) := s5.k D _ hD3 nOt noTb_lst
      have gD5 : G5 D = none := by
        cases z : G5 D with
        | none => rfl
        | some o =>
          rcases s5.f D o z with ⟨o', z'⟩ | z'
          · rw [gD3] at z'; cases z'
          · exact (z' _ hD3).elim
      cases k with
      | false =>
        refine iteF ?_
        have E6 := E5.wipe (own.map (·.2)) hpf
        rw [hw] at E6
        exact ⟨hlt, acc, _, G5, vs, hn rfl, fun v hv => lk_wpG hv, sp.trans ((s3 σ).trans (s5.out hO hag2)), E6, gD5, hD5, dpa_mono s5.g _ _ al3, by omega⟩
      | true =>
        refine iteT ?_
        obtain ⟨yv, Γ3, pE, hV3⟩ := hy rfl
        refine ⟨Γt, yv, Γ3, pE, G5, E5, fun v H6 G6 s6 E6 v6 => ?_⟩
        have s56 := s5.trans s6
        have hD6 : H6 D = some (.lst vs) := s6.k D _ hD5 nOt noTb_lst
        have gD6 : G6 D = none := by
          cases z : G6 D with
          | none => rfl
          | some o =>
            rcases s6.f D o z with ⟨o', z'⟩ | z'
            · rw [gD5] at z'; cases z'
            · exact (z' _ hD5).elim
        have lv : vs.length = acc.length := dpa_len al
        refine ⟨vs, hD6, by rw [lv]; exact Nat.lt_of_lt_of_le (Nat.lt_of_le_of_lt hlen (Nat.lt_trans hlt hz)) (by decide), hlt, acc ++ [yv], _, G6, vs ++ [v], hV3, fun v hv => lk_wpG hv, ?_, ?_, gD6, upd_same, dpa_app (dpa_mono s56.g _ _ al3) (.cons v6 .nil), by rw [List.length_append]; simp; omega⟩
        · have S := sp.trans ((s3 σ).trans (s56.out hO hag2))
          refine ⟨S.g, S.f, fun a o h n t => ?_, S.o, fun a us h => ?_⟩
          · rw [upd_ne (ne_of_none h hD)]; exact S.k a o h n t
          · rw [upd_ne (ne_of_none h hD)]; exact S.s a us h
        · have E7 := (E6.raw (o := .lst (vs ++ [v])) hD6 gD6 (fun z => nOt (s56.o D z)) d0.1 d0.2.1).wipe (own.map (·.2)) hpf
          rw [hw] at E7
          exact E7
    · have e : i = ds.length := by omega
      subst e
      obtain ⟨e1, e2⟩ := done acc Γ' hV
      subst e1 e2
      exact .inl ⟨it.stop _ H' leH (Nat.le_refl _), q D vs H' G' (s1.trans sp) (E'.unwipe hno) HD gD hD' al⟩
theorem pts_no : PTs X [] (tDT X.K F Γ true Γ) := ⟨fun pins s σ H Q I ⟨G, E, q⟩ => pts_nil.run pins s σ H Q I (q H G Step.refl E)⟩
theorem pts_if {k : Bool} (h : PT X c (tDT X.K F Γ k Γ)) : PTs X [c] (tDT X.K F Γ k Γ) := pts_one h
end
section
variable {X : Cx} {F : Fx} {Γ Γ1 Γ2 : List Sl} {a b : Expr} {pos p : Pos} {K : PySem.W.Frag}
def zipD (as bs : List PyData) : List PyData := List.zipWith (fun x y => .tuple [x, y]) as bs
theorem zipD_get {as bs : List PyData} {i : Nat} {x y : PyData} (h1 : as[i]? = some x) (h2 : bs[i]? = some y) : (zipD as bs)[i]? = some (.tuple [x, y]) := by
  unfold zipD
  rw [List.getElem?_zipWith, h1, h2]
theorem zipD_len (as bs : List PyData) : (zipD as bs).length = min as.length bs.length := by unfold zipD; rw [List.length_zipWith]
theorem itd_zipL {G : Hp} {p1 p2 : Addr} {v1 v2 : List V} {as bs : List PyData} (q1 : Rd G p1 (.lst v1)) (a1 : DqAll K G v1 as) (q2 : Rd G p2 (.lst v2)) (a2 : DqAll K G v2 bs) : ItD K G (Itz K p1 p2) (zipD as bs) where
  go := fun i H e hi => by
    rw [zipD_len] at hi
    obtain ⟨x, hx, _⟩ := dpa_get (i := i) a1 (List.getElem?_eq_getElem (by omega))
    obtain ⟨y, hy, _⟩ := dpa_get (i := i) a2 (List.getElem?_eq_getElem (by omega))
    exact ⟨v1, v2, x, y, .inl (rd_mono e q1), .inl (rd_mono e q2), hx, hy⟩
  yl := fun i H G1 x H' e1 e2 hi ⟨T, x1, x2, ex, hT, eH, f1, f2⟩ => by
    rw [zipD_len] at hi
    obtain ⟨x, hx, dx⟩ := dpa_get (i := i) a1 (List.getElem?_eq_getElem (by omega))
    obtain ⟨y, hy, dy⟩ := dpa_get (i := i) a2 (List.getElem?_eq_getElem (by omega))
    have h1 : x1 = x := Option.some.inj ((f1 _ (.inl (rd_mono (e1.trans e2) q1))).symm.trans hx)
    have h2 : x2 = y := Option.some.inj ((f2 _ (.inl (rd_mono (e1.trans e2) q2))).symm.trans hy)
    subst h1 h2 ex eH
    have g1 : G1 T = none := by
      cases z : G1 T with
      | none => rfl
      | some o => have := e2 T o z; rw [hT] at this; cases this
    refine ⟨_, zipD_get (List.getElem?_eq_getElem (by omega)) (List.getElem?_eq_getElem (by omega)), .inr ⟨T, _, hT, (fun _ z => by cases z), rfl, .tup (SqT.of upd_same) (.cons ?_ (.cons ?_ .nil))⟩⟩
    · exact dp_mono (e1.trans (same_upd g1)) _ _ dx
    · exact dp_mono (e1.trans (same_upd g1)) _ _ dy
  stop := fun i H e hi => by
    rw [zipD_len] at hi
    refine ⟨v1, v2, .inl (rd_mono e q1), .inl (rd_mono e q2), ?_⟩
    rw [dpa_len a1, dpa_len a2]
    omega
theorem itd_zipT {G : Hp} {p1 p2 : Addr} {v1 v2 : List V} {as bs : List PyData} (q1 : SqT K G p1 v1) (a1 : DqAll K G v1 as) (q2 : SqT K G p2 v2) (a2 : DqAll K G v2 bs) : ItD K G (RZ.ItzT K p1 p2) (zipD as bs) where
  go := fun i H e hi => by
    rw [zipD_len] at hi
    obtain ⟨x, hx, _⟩ := dpa_get (i := i) a1 (List.getElem?_eq_getElem (by omega))
    obtain ⟨y, hy, _⟩ := dpa_get (i := i) a2 (List.getElem?_eq_getElem (by omega))
    exact ⟨v1, v2, x, y, sqT_mono e q1, sqT_mono e q2, hx, hy⟩
  yl := fun i H G1 x H' e1 e2 hi ⟨T, x1, x2, ex, hT, eH, f1, f2⟩ => by
    rw [zipD_len] at hi
    obtain ⟨x, hx, dx⟩ := dpa_get (i := i) a1 (List.getElem?_eq_getElem (by omega))
    obtain ⟨y, hy, dy⟩ := dpa_get (i := i) a2 (List.getElem?_eq_getElem (by omega))
    have h1 : x1 = x := Option.some.inj ((f1 _ (sqT_mono (e1.trans e2) q1)).symm.trans hx)
    have h2 : x2 = y := Option.some.inj ((f2 _ (sqT_mono (e1.trans e2) q2)).symm.trans hy)
    subst h1 h2 ex eH
    have g1 : G1 T = none := by
      cases z : G1 T with
      | none => rfl
      | some o => have := e2 T o z; rw [hT] at this; cases this
    refine ⟨_, zipD_get (List.getElem?_eq_getElem (by omega)) (List.getElem?_eq_getElem (by omega)), .inr ⟨T, _, hT, (fun _ z => by cases z), rfl, .tup (SqT.of upd_same) (.cons ?_ (.cons ?_ .nil))⟩⟩
    · exact dp_mono (e1.trans (same_upd g1)) _ _ dx
    · exact dp_mono (e1.trans (same_upd g1)) _ _ dy
  stop := fun i H e hi => by
    rw [zipD_len] at hi
    refine ⟨v1, v2, sqT_mono e q1, sqT_mono e q2, ?_⟩
    rw [dpa_len a1, dpa_len a2]
    omega
theorem di_zipL {as bs : List PyData} {elts : List Expr} {kk : Nat} {tpos : Pos} (ha : PA X [a, b] (tDA X.K F Γ [.dat (.list as), .dat (.list bs)] Γ1)) (hm : X.mg "zip" = none) (hg : Gl X "zip" := by rfl) (hs : starEach [a, b] X.env = (false, eval a X.env) :: starEach [b] X.env := by rfl) (hpl : (backTo pos (starEach [b] X.env)).any (·.1) = false := by rfl) :
    PI X (.Tuple elts kk tpos) (.Call (.Name "zip" p) [a, b] [] pos) (tI X.K F Γ (zipD as bs) Γ1) := by
  have h := RZ.pi_zipA (elts := elts) (kk := kk) (tpos := tpos) (p := p) (pos := pos) hg hm ha hs hpl
  refine ⟨fun pins s σ H R I ⟨G, E, q⟩ => h.run pins s σ H R I ⟨G, E, fun vs H1 G1 s1 E1 v1 => ?_⟩⟩
  obtain ⟨v, w, rfl, h1, h2⟩ := paired2 v1
  obtain ⟨p1, u1, rfl, q1, a1⟩ := dp_lst h1
  obtain ⟨p2, u2, rfl, q2, a2⟩ := dp_lst h2
  exact ⟨p1, p2, u1, u2, rfl, .inl ⟨.inl (rd_mono E1.le (.inl q1)), .inl (rd_mono E1.le (.inl q2)), q _ H1 G1 s1 E1 (itd_zipL (.inl q1) a1 (.inl q2) a2)⟩⟩
theorem di_zipT {as bs : List PyData} {elts : List Expr} {kk : Nat} {tpos : Pos} (ha : PA X [a, b] (tDA X.K F Γ [.dat (.tuple as), .dat (.tuple bs)] Γ1)) (hm : X.mg "zip" = none) (hg : Gl X "zip" := by rfl) (hs : starEach [a, b] X.env = (false, eval a X.env) :: starEach [b] X.env := by rfl) (hpl : (backTo pos (starEach [b] X.env)).any (·.1) = false := by rfl) :
    PI X (.Tuple elts kk tpos) (.Call (.Name "zip" p) [a, b] [] pos) (tI X.K F Γ (zipD as bs) Γ1) := by
  have h := RZ.pi_zipA (elts := elts) (kk := kk) (tpos := tpos) (p := p) (pos := pos) hg hm ha hs hpl
  refine ⟨fun pins s σ H R I ⟨G, E, q⟩ => h.run pins s σ H R I ⟨G, E, fun vs H1 G1 s1 E1 v1 => ?_⟩⟩
  obtain ⟨v, w, rfl, h1, h2⟩ := paired2 v1
  obtain ⟨p1, u1, rfl, q1, a1⟩ := dp_tup h1
  obtain ⟨p2, u2, rfl, q2, a2⟩ := dp_tup h2
  exact ⟨p1, p2, u1, u2, rfl, .inr ⟨sqT_mono E1.le q1, sqT_mono E1.le q2, q _ H1 G1 s1 E1 (itd_zipT q1 a1 q2 a2)⟩⟩
def enumD (as : List PyData) : List PyData := (List.range as.length).zipWith (fun i x => .tuple [.int ((i : Nat) : Int), x]) as
theorem enumD_len (as : List PyData) : (enumD as).length = as.length := by unfold enumD; rw [List.length_zipWith, List.length_range, Nat.min_self]
theorem enumD_get {as : List PyData} {i : Nat} {x : PyData} (h : as[i]? = some x) : (enumD as)[i]? = some (.tuple [.int (i : Int), x]) := by
  unfold enumD
  have hi : i < as.length := (List.getElem?_eq_some_iff.mp h).1
  rw [List.getElem?_zipWith, h, List.getElem?_range hi]
theorem itd_enumL {G : Hp} {p1 : Addr} {v1 : List V} {as : List PyData} (q1 : Rd G p1 (.lst v1)) (a1 : DqAll K G v1 as) : ItD K G (Ite K p1) (enumD as) where
  go := fun i H e hi => by
    rw [enumD_len] at hi
    obtain ⟨x, hx, _⟩ := dpa_get (i := i) a1 (List.getElem?_eq_getElem hi)
    exact ⟨v1, x, .inl (rd_mono e q1), hx⟩
  yl := fun i H G1 x H' e1 e2 hi ⟨T, x1, ex, hT, eH, f1⟩ => by
    rw [enumD_len] at hi
    obtain ⟨x, hx, dx⟩ := dpa_get (i := i) a1 (List.getElem?_eq_getElem hi)
    have h1 : x1 = x := Option.some.inj ((f1 _ (.inl (rd_mono (e1.trans e2) q1))).symm.trans hx)
    subst h1 ex eH
    have g1 : G1 T = none := by
      cases z : G1 T with
      | none => rfl
      | some o => have := e2 T o z; rw [hT] at this; cases this
    exact ⟨_, enumD_get (List.getElem?_eq_getElem hi), .inr ⟨T, _, hT, (fun _ z => by cases z), rfl, .tup (SqT.of upd_same) (.cons (.int _) (.cons (dp_mono (e1.trans (same_upd g1)) _ _ dx) .nil))⟩⟩
  stop := fun i H e hi => by
    rw [enumD_len] at hi
    exact ⟨v1, .inl (rd_mono e q1), by rw [dpa_len a1]; exact hi⟩
theorem di_enumL {as : List PyData} {elts : List Expr} {kk : Nat} {tpos : Pos} (ha : PE X a (tD X.K F Γ (.dat (.list as)) Γ1)) (hm : X.mg "enumerate" = none) (hg : Gl X "enumerate" := by rfl) (hs : starEach [a] X.env = [(false, eval a X.env)] := by rfl) :
    PI X (.Tuple elts kk tpos) (.Call (.Name "enumerate" p) [a] [] pos) (tI X.K F Γ (enumD as) Γ1) := by
  have h := pi_enum (elts := elts) (kk := kk) (tpos := tpos) (p := p) (pos := pos) hg hm (da_cons ha da_nil hs) hs
  refine ⟨fun pins s σ H R I ⟨G, E, q⟩ => h.run pins s σ H R I ⟨G, E, fun vs H1 G1 s1 E1 v1 => ?_⟩⟩
  obtain ⟨v, rfl, h1⟩ := paired1 v1
  obtain ⟨p1, u1, rfl, q1, a1⟩ := dp_lst h1
  exact ⟨p1, u1, rfl, .inl (rd_mono E1.le (.inl q1)), q _ H1 G1 s1 E1 (itd_enumL (.inl q1) a1)⟩
end
end AM

set_option Elab.async false
set_option linter.all false
set_option maxRecDepth 100000
set_option maxHeartbeats 2000000
namespace AM
open PySem PySem.Spec PyProof.Rows L2
def spB (K : PySem.W.Frag) (R : List PyData → List PyData → PyData → List PyData → Prop) : Sp := fun vs H Q _ => ∃ G p xs ds bs ws d xs', vs = .ref p :: ws ∧ Same G H ∧ NT G ∧ G p = none ∧ H p = some (.lst bs) ∧ DqAll K G bs xs ∧ DqAll K G ws ds ∧ R xs ds d xs' ∧
  ∀ v H' G' bs', (∀ a o, a ≠ p → H a = some o → H' a = some o) → Same G G' → Same G' H' → (∀ a o, G' a = some o → (∃ o', G a = some o') ∨ H a = none) → NT G' → H' p = some (.lst bs') → DqAll K G' bs' xs' → Dq K G' v d → Q v H'
def wantB (d : PyData) (xs : List PyData) : Out → Prop
  | .rt d' Γ => d' = d ∧ lk Γ 0 = .own xs
  | .nx Γ => d = .none ∧ lk Γ 0 = .own xs
  | _ => False
def startB (N : Nat) (xs ds : List PyData) : List Sl := .own xs :: (ds.map .dat ++ List.replicate (N - 1 - ds.length) .no)
section
variable {P : Program} {w : World} {K : PySem.W.Frag} {mg : Str → Option Value} {base : Heap}
def fxB (i : Nat) (p : Addr) (H G : Hp) (T : List (Addr × Str) := []) : Fx := ⟨[(i, p)], H, G, T⟩
theorem fxB_M {i : Nat} {p : Addr} {H G : Hp} {a : Addr} : (fxB i p H G).M a ↔ a = p := by
  constructor
  · rintro (⟨j, h⟩ | ⟨q, h⟩)
    · rcases List.mem_cons.mp h with h | h
      · cases h; rfl
      · cases h
    · cases h
  · rintro rfl
    exact .inl ⟨i, List.mem_cons_self⟩
theorem fxB_MT {i : Nat} {p : Addr} {H G : Hp} {T : List (Addr × Str)} {a : Addr} : (fxB i p H G T).M a ↔ a = p ∨ ∃ q, (a, q) ∈ T := by
  constructor
  · rintro (⟨j, h⟩ | h)
    · rcases List.mem_cons.mp h with h | h
      · cases h; exact .inl rfl
      · cases h
    · exact .inr h
  · rintro (rfl | h)
    · exact .inl ⟨i, List.mem_cons_self⟩
    · exact .inr h
theorem lk_startB (N : Nat) (xs ds : List PyData) (i : Nat) : lk (startB N xs ds) i = (match i with | 0 => .own xs | i + 1 => (match ds[i]? with | some d => .dat d | none => .no)) := by
  cases i with
  | zero => rfl
  | succ i =>
    show lk (ds.map .dat ++ List.replicate (N - 1 - ds.length) .no) i = _
    exact lk_start (N - 1) ds i
theorem env_startB {G H : Hp} {p : Addr} {bs ws : List V} {xs ds : List PyData} {N : List Str} (sg : Same G H) (nt : NT G) (gp : G p = none) (hp : H p = some (.lst bs)) (hb : DqAll K G bs xs) (ha : DqAll K G ws ds) (hl : ds.length + 1 ≤ N.length) :
    En K (fxB 0 p H G) G (L2.start N (.ref p :: ws)) H (startB N.length xs ds) where
  le := sg
  g0 := Same.r
  fr := fun a o h => .inl ⟨o, h⟩
  base := fun a o _ h => h
  mu := fun a z => by rw [fxB_M] at z; subst z; exact ⟨_, hp⟩
  sl := fun i => by
    rw [lk_startB]
    cases i with
    | zero => exact ⟨p, bs, rfl, gp, hp, hb, .inl (fxB_M.mpr rfl)⟩
    | succ i =>
      show SlOk K _ G H (match ds[i]? with | some d => .dat d | none => .no) _
      cases q : ds[i]? with
      | none => trivial
      | some d =>
        obtain ⟨v, hv, hd⟩ := dpa_get ha q
        refine ⟨v, ?_, hd⟩
        unfold L2.start
        rw [List.getElem?_append_left (by have := (List.getElem?_eq_some_iff.mp hv).1; simp; omega), List.getElem?_map]
        simp [hv]
  nd := fun i j p' ys zs e1 e2 _ _ => by
    have aux : ∀ i ys, lk (startB N.length xs ds) i = .own ys → i = 0 := fun i ys e => by
      rw [lk_startB] at e
      cases i with
      | zero => rfl
      | succ i =>
        have e : (match ds[i]? with | some d => Sl.dat d | none => .no) = .own ys := e
        cases q : ds[i]? <;> rw [q] at e <;> cases e
    rw [aux i ys e1, aux j zs e2]
  len := by
    have e := dpa_len ha
    simp [L2.start, startB, e]
    omega
  pin := fun q hq => by
    rcases List.mem_cons.mp hq with rfl | hq
    · exact ⟨rfl, xs, rfl⟩
    · cases hq
  tab := fun q hq => by cases hq
  nt := nt
theorem fn_bag {x qual : Str} {st : Stmt} {f : Addr} {fd : FuncData} {N ps : List Str} {k : Nat} {R : List PyData → List PyData → PyData → List PyData → Prop} (Fn : FunG K x qual st f fd) (S : FnScope N ps (defScope st)) (len : ∀ xs ds d xs', R xs ds d xs' → ds.length + 1 = ps.length) (hle : ps.length ≤ N.length)
    (body : ∀ (cdv : Value) (A : Around) (outer : List PySem.Env) (s : Shared) (H G : Hp) (E : XK) (p : Addr) (xs ds : List PyData) (d : PyData) (xs' : List PyData), Room k (A.deeper (envOfC qual (defScope st) s.heap.objs.size f cdv)) → R xs ds d xs' →
      PSs (cxOf (L2.CX P w) P w K mg base N qual (defScope st) f cdv A outer s H E) (defBody st) (tS K (fxB 0 p H G) (fun c d _ H => E c d H) (startB N.length xs ds) (wantB d xs'))) : FnOk P w K mg base (L2.CX P w) (k + 1) f fd ps (spB K R) := by
  refine Fn.okX S (fun vs H Q E h => ?_) (fun cdv A outer s H vs Q E hr h => ?_)
  · obtain ⟨G, p, xs, ds, bs, ws, d, xs', rfl, _, _, _, _, _, ha, hR, _⟩ := h
    rw [List.length_cons, dpa_len ha]; exact len _ _ _ _ hR
  · obtain ⟨G, p, xs, ds, bs, ws, d, xs', rfl, sg, nt, gp, hp, hb, ha, hR, q⟩ := h
    refine ⟨_, body cdv A outer s H G E p xs ds d xs' hr hR, ?_⟩
    have E0 := env_startB (K := K) (N := N) sg nt gp hp hb ha (by rw [len _ _ _ _ hR]; exact hle)
    have fin : ∀ {v σ' H' G' Γ'}, Same G G' → En K (fxB 0 p H G) G' σ' H' Γ' → lk Γ' 0 = .own xs' → Dq K G' v d → Q v H' := fun {v σ' H' G' Γ'} g E' e hd => by
      obtain ⟨e1, _⟩ := E'.pin (0, p) List.mem_cons_self
      have s := E'.sl 0
      rw [e] at s
      obtain ⟨p', bs', e2, g2, hp2, ha2, _⟩ := s
      have e1 : σ'[0]? = some (some (.ref p)) := e1
      rw [e1] at e2
      cases e2
      exact q v H' G' bs' (fun a o ne h => E'.base a o (fun z => ne (fxB_M.mp z)) h) g E'.le E'.fr E'.nt hp2 ha2 hd
    refine ⟨G, E0, ?_, ?_, ?_, ?_, ?_⟩
    · intro Γ' σ' H' G' ⟨p1, p2⟩ g E'
      subst p1
      exact fin g E' p2 .non
    · intro d' Γ' v σ' H' G' ⟨p1, p2⟩ g E' hd
      subst p1
      exact fin g E' p2 hd
    · intro Γ' σ' H' G' p; exact p.elim
    · intro Γ' σ' H' G' p; exact p.elim
    · intro c Γ' σ' H' G' p; exact p.elim
end
section
variable {X : Cx} {F : Fx} {Γ Γ1 Γ2 : List Sl} {a e : Expr} {es : List Expr} {pos p : Pos} {k : Nat} {f : Addr} {fd : FuncData} {ps : List Str} {x : Str} {R : List PyData → List PyData → PyData → List PyData → Prop} {rs : List Rv} {xs xs' ds : List PyData} {d : PyData} {i : Nat}
theorem de_bag (Gf : FnOk X.prog X.w X.K X.mg X.base (L2.CX X.prog X.w) k f fd ps (spB X.K R)) (hr : Room k X.A) (hm : X.mg x = some (.ref f)) (hk : PySem.W.keepIn X.K (.ref f) = true) (hb : Binds X.K fd ps []) (ha : PA X (e :: es) (tDA X.K F Γ (.al i :: rs) Γ1)) (hR : R xs ds d xs') (hl : lk Γ1 i = .own xs := by rfl) (hd : datS rs = some ds := by rfl)
    (hg : Gl X x := by rfl) (hdb : (x == ("__debug__" : Str)) = false := by decide) (he : starEach (e :: es) X.env = (false, eval e X.env) :: starEach es X.env := by rfl) (hpl : (backTo pos (starEach es X.env)).any (·.1) = false := by rfl) :
    PE X (.Call (.Name x p) (e :: es) [] pos) (tD X.K F Γ (.dat d) (st Γ1 i (.own xs'))) :=
  pe_imp (pe_callS (E := WE fun _ _ _ _ => False) Gf hr hg hm hk hb (fun σ => passAt takes0 σ) ha hdb he hpl) fun σ H Q ⟨G, E, q⟩ => ⟨G, E, fun vs H1 G1 s1 E1 v1 => by
    cases v1 with
    | cons hv v1 =>
      rename_i v0 ws
      obtain ⟨p, bs, es', gp, hp, hbs⟩ := own_at E1 hl
      have hv : σ[i]? = some (some v0) := hv
      rw [es'] at hv
      have : V.ref p = v0 := Option.some.inj (Option.some.inj hv)
      subst this
      refine ⟨G1, p, xs, ds, bs, ws, d, xs', rfl, E1.le, E1.nt, gp, hp, hbs, datS_dp v1 hd, hR, fun v H' G' bs' k1 g1 le1 f1 nt1 hp' hb' hv' => ?_⟩
      have hi : i < Γ1.length := by
        apply Classical.byContradiction
        intro z
        rw [lk_big _ _ (by omega)] at hl
        cases hl
      have gp' : G' p = none := by
        cases z : G' p with
        | none => rfl
        | some o =>
          rcases f1 p o z with ⟨o', z'⟩ | z'
          · rw [gp] at z'; cases z'
          · rw [hp] at z'; cases z'
      have hO : Own σ Γ1 p := ⟨i, xs, hl, es'⟩
      have hown := E1.sl i
      rw [hl] at hown
      obtain ⟨p2, bs2, e2, _, _, _, hm2⟩ := hown
      rw [es'] at e2
      cases e2
      refine q v H' G' (s1.trans ⟨g1, fun a o h => (f1 a o h).imp id Nl.none, fun a o h n _ => k1 a o (fun z => n (by rw [z]; exact hO)) h, fun a ⟨j, ys, z1, z2⟩ => ?_, fun a us h => ?_⟩) ⟨le1, fun a o h => g1 a o (E1.g0 a o h), fun a o h => ?_, fun a o n h => ?_, fun a m => ?_, fun j => ?_, fun a b p' ys zs e1 e2 e3 e4 => ?_, by rw [st_length]; exact E1.len, fun q hq => ⟨(E1.pin q hq).1, ?_⟩, tabs_keep E1.tab fun a o h n => k1 a o (fun z => n bs (by rw [z, hp] at h; exact (Option.some.inj h).symm)) h, nt1⟩ hv'
      · by_cases w : i = j
        · subst w; exact ⟨i, xs, hl, z2⟩
        · rw [lk_st_ne _ _ _ _ w] at z1; exact ⟨j, ys, z1, z2⟩
      · by_cases w : a = p
        · subst w; exact ⟨_, hp'⟩
        · exact ⟨us, k1 a _ w h⟩
      · rcases f1 a o h with ⟨o', h'⟩ | h'
        · exact E1.fr a o' h'
        · exact .inr (E1.no h').1
      · have := E1.base a o n h
        refine k1 a o (fun w => ?_) this
        subst w
        rcases hm2 with m | m
        · exact n m
        · rw [m] at h; cases h
      · obtain ⟨o, h⟩ := E1.mu a m
        by_cases w : a = p
        · subst w; exact ⟨_, hp'⟩
        · exact ⟨o, k1 a o w h⟩
      · by_cases w : i = j
        · subst w
          rw [lk_st_same _ _ _ hi]
          exact ⟨p, bs', es', gp', hp', hb', hm2⟩
        · rw [lk_st_ne _ _ _ _ w]
          have s := E1.sl j
          cases ql : lk Γ1 j with
          | no => trivial
          | dat d' => rw [ql] at s; obtain ⟨v', z1, z2⟩ := s; exact ⟨v', z1, dp_mono g1 _ _ z2⟩
          | own zs =>
            rw [ql] at s
            obtain ⟨a', ws', e3, g3, hp3, ha3, hm3⟩ := s
            have ne : a' ≠ p := fun z => by
              subst z
              exact w (E1.nd i j a' xs zs hl ql es' e3)
            refine ⟨a', ws', e3, ?_, k1 _ _ ne hp3, dpa_mono g1 _ _ ha3, hm3⟩
            cases z : G' a' with
            | none => rfl
            | some o =>
              rcases f1 a' o z with ⟨o', z'⟩ | z'
              · rw [g3] at z'; cases z'
              · rw [hp3] at z'; cases z'
      · have aux : ∀ c zs, lk (st Γ1 i (.own xs')) c = .own zs → ∃ zs', lk Γ1 c = .own zs' := fun c zs h => by
          by_cases w : i = c
          · subst w; exact ⟨xs, hl⟩
          · rw [lk_st_ne _ _ _ _ w] at h; exact ⟨zs, h⟩
        obtain ⟨y1, h1⟩ := aux a ys e1
        obtain ⟨y2, h2⟩ := aux b zs e2
        exact E1.nd a b p' y1 y2 h1 h2 e3 e4
      · by_cases w : i = q.1
        · rw [← w, lk_st_same _ _ _ hi]; exact ⟨xs', rfl⟩
        · rw [lk_st_ne _ _ _ _ w]; exact (E1.pin q hq).2⟩
end
structure Bag where
  x : Int
  y : Int
  z : Int
def bagD (b : Bag) : List PyData := [.int b.x, .int b.y, .int b.z]
def bagV (b : Bag) : List V := [.int b.x, .int b.y, .int b.z]
structure BagOk (n : Int) (b : Bag) : Prop where
  y0 : 0 ≤ b.y
  y1 : b.y < 2305843009213693951
  z0 : 0 ≤ b.z
  z1 : b.z ≤ n
theorem BagOk.mono {n m : Int} {b : Bag} (h : BagOk n b) (e : n ≤ m) : BagOk m b := ⟨h.y0, h.y1, h.z0, Int.le_trans h.z1 e⟩
def P61 : Int := 2305843009213693951
def take (b : Bag) (m : Int) : Int × Bag :=
  if 0 < b.x then (b.x.fmod m, ⟨b.x.fdiv m, b.y, b.z⟩)
  else
    let n := (b.y + 1000003 * (b.z + 1)).fmod P61
    let n2 := (n * n + 7919 * (b.z + 1) ^ 2 + 5).fmod P61
    ((((n2 ^ 3).fmod P61).fdiv 13).fmod m, ⟨b.x, b.y, b.z + 1⟩)
theorem fmod_rng (a : Int) {m : Int} (h : 0 < m) : 0 ≤ a.fmod m ∧ a.fmod m < m := ⟨by rw [Int.fmod_eq_emod_of_nonneg _ (by omega)]; exact Int.emod_nonneg _ (by omega), by rw [Int.fmod_eq_emod_of_nonneg _ (by omega)]; exact Int.emod_lt_of_pos _ h⟩
theorem take_rng (b : Bag) {m : Int} (h : 0 < m) : 0 ≤ (take b m).1 ∧ (take b m).1 < m := by
  unfold take
  split
  · exact fmod_rng _ h
  · exact fmod_rng _ h
theorem take_ok {n : Int} {b : Bag} (h : BagOk n b) (m : Int) : BagOk (n + 1) (take b m).2 := by
  have h1 := h.z0
  have h2 := h.z1
  unfold take
  split
  · exact ⟨h.y0, h.y1, h.z0, by show b.z ≤ n + 1; omega⟩
  · exact ⟨h.y0, h.y1, by show 0 ≤ b.z + 1; omega, by show b.z + 1 ≤ n + 1; omega⟩
def tBags (K : PySem.W.Frag) : TE := fun σ H Q => (∃ (a : Addr) (ns : List Int), σ[0]? = some (some (.ref a)) ∧ SqL K H a (ns.map V.int) ∧ ns.length ≤ 63) ∧
  ∀ (l : Addr) (bs : List Addr) (H' : Hp), Same H H' → H' l = some (.lst (bs.map V.ref)) → bs.Nodup → l ∉ bs → (∀ b ∈ bs, ∃ B : Bag, BagOk 100000 B ∧ H' b = some (.lst (bagV B))) → Q (.ref l) H'
def bagΓ (n ib : Nat) (B : Bag) : List Sl := st (List.replicate n .no) ib (.own (bagD B))
def lawP (n : Nat) : Out → Prop
  | .nx Γ => Γ.length = n
  | .ct Γ => Γ.length = n
  | _ => False
theorem lk_rep (n i : Nat) : lk (List.replicate n Sl.no) i = .no := by
  induction n generalizing i with
  | zero => rfl
  | succ n ih =>
    cases i with
    | zero => rfl
    | succ i => exact ih i
theorem bagV_D {K : PySem.W.Frag} {G : Hp} (B : Bag) : DqAll K G (bagV B) (bagD B) := .cons (.int _) (.cons (.int _) (.cons (.int _) .nil))
def cln (H : Hp) : Hp := fun a => match H a with
  | some (.tbl _) => none
  | o => o
theorem cln_le (H : Hp) : Same (cln H) H := fun a o h => by
  unfold cln at h
  cases q : H a with
  | none => rw [q] at h; cases h
  | some u => rw [q] at h; cases u <;> first | exact h | cases h
theorem cln_nt (H : Hp) : NT (cln H) := fun a o h ps z => by
  subst z
  unfold cln at h
  cases q : H a with
  | none => rw [q] at h; cases h
  | some u => rw [q] at h; cases u <;> cases h
theorem cln_lst {H : Hp} {a : Addr} {vs : List V} (h : H a = some (.lst vs)) : cln H a = some (.lst vs) := by unfold cln; rw [h]
theorem env_bag {K : PySem.W.Frag} {H : Hp} {σ : L2.St} {n ib : Nat} {p : Addr} {B : Bag} {T : List (Addr × Str)} (hl : σ.length = n) (hi : ib < n) (hp : H p = some (.lst (bagV B))) (es : σ[ib]? = some (some (.ref p))) (tb : LamX.Tabs T H) : En K (fxB ib p (cln H) (fun _ => none) T) (fun _ => none) σ H (bagΓ n ib B) := by
  have hn : ib < (List.replicate n Sl.no).length := by rw [List.length_replicate]; exact hi
  have lkE : ∀ j, lk (bagΓ n ib B) j = if ib = j then .own (bagD B) else .no := fun j => by
    unfold bagΓ
    by_cases w : ib = j
    · subst w; rw [if_pos rfl]; exact lk_st_same _ _ _ hn
    · rw [if_neg w, lk_st_ne _ _ _ _ w, lk_rep]
  refine ⟨fun a o h => (by cases h), fun a o h => (by cases h), fun a o h => (by cases h), fun a o _ h => cln_le H a o h, fun a m => ?_, fun j => ?_, fun i j p' xs ys e1 e2 _ _ => ?_, ?_, fun q hq => ?_, tb, fun a o h => (by cases h)⟩
  · rw [fxB_MT] at m
    rcases m with rfl | ⟨q, m⟩
    · exact ⟨_, hp⟩
    · obtain ⟨ps, h1, _⟩ := tb _ m
      exact ⟨_, h1⟩
  · rw [lkE]
    by_cases w : ib = j
    · subst w
      rw [if_pos rfl]
      exact ⟨p, _, es, rfl, hp, bagV_D B, .inl (fxB_MT.mpr (.inl rfl))⟩
    · rw [if_neg w]; trivial
  · rw [lkE] at e1 e2
    by_cases w1 : ib = i
    · by_cases w2 : ib = j
      · rw [← w1, ← w2]
      · rw [if_neg w2] at e2; cases e2
    · rw [if_neg w1] at e1; cases e1
  · unfold bagΓ; rw [st_length, List.length_replicate]; exact hl
  · rcases List.mem_cons.mp hq with rfl | hq
    · exact ⟨es, bagD B, by rw [lkE, if_pos rfl]⟩
    · cases hq
def tBody (K : PySem.W.Frag) (n ib : Nat) (T : List (Addr × Str)) : TS := fun D σ H => ∃ (H0 : Hp) (p : Addr) (B : Bag), BagOk 100000 B ∧ NT H0 ∧ tS K (fxB ib p H0 (fun _ => none) T) (fun _ _ _ _ => False) (bagΓ n ib B) (lawP n) D σ H
theorem law_loop {X : Cx} {iter : Expr} {body : List Stmt} {x : Str} {n : Nat} {p1 p2 p3 p4 : Pos} {j : Nat} {T : List (Addr × Str)} (ib : Nat) (hit : PE X iter (tBags X.K)) (hN : X.N.Nodup) (hn : X.N.length = n) (hp : PassesOwn (model X.prog X.w) X.A X.env X.xe) (hib : ib < n)
    (hb : ∀ (H : Hp) (p : Addr) (B : Bag), BagOk 100000 B → NT H → PSs X body (tS X.K (fxB ib p H (fun _ => none) T) (fun _ _ _ _ => False) (bagΓ n ib B) (lawP n)))
    (hi : X.N[ib]? = some x := by rfl) (hx : Loc X.env.scope x := by first | exact Or.inl rfl | exact Or.inr rfl) (hc : X.calm = true := by rfl) (hf : X.fn x = true ∨ X.env.scope.names.lookup x = some .local := by first | exact .inl rfl | exact .inr rfl) (hs : ∀ x, foldedSetIterable iter X.env x = pure x := by intro _; rfl) :
    PSs X [.For (.Name x p1) iter body [] p2, .Return (some (.Constant (.bool true) j p3)) p4] (fun D σ H => σ.length = n ∧ (∃ (a : Addr) (ns : List Int), σ[0]? = some (some (.ref a)) ∧ SqL X.K H a (ns.map V.int) ∧ ns.length ≤ 63) ∧ LamX.Tabs T H ∧ ∀ H', D.rt (.bl true) H') := by
  have hB : PSs X body (tBody X.K n ib T) := ⟨fun pins s σ H D I ⟨H0, p, B, ok, nt, q⟩ => (hb H0 p B ok nt).run pins s σ H D I q⟩
  refine pss_imp (pss_cons (ps_for hp hc (pi_list hit) (pg_name hN hi hx hf) hB hs) (pss_one (ps_ret pe_bl))) fun D σ H ⟨hl, hsc, tb0, q⟩ => ⟨hsc, fun l bs H1 sm1 h1 nd nl hbs => ⟨l, rfl, ⟨_, .inl (.inl h1)⟩, ?_⟩⟩
  refine for_list (K := X.K) (a := l) (xs := bs.map V.ref) (g := gName ib) (tb := tBody X.K n ib T) (D := { D with nx := tRet (tC (.bl true)) D }) (fun i σ H => σ.length = n ∧ LamX.Tabs T H ∧ H l = some (.lst (bs.map V.ref)) ∧ ∀ j, i ≤ j → ∀ b, bs[j]? = some b → ∃ B : Bag, BagOk 100000 B ∧ H b = some (.lst (bagV B))) ⟨hl, tb0.ext sm1, h1, fun j _ b e => hbs b (List.mem_of_getElem? e)⟩ (fun i σ H _ ⟨_, _, h, _⟩ => .inl (.inl h)) ?_ ?_
  · rintro i v σ H hv ⟨hl', tb, hL, hBs⟩
    rw [List.getElem?_map] at hv
    obtain ⟨b, hb', rfl⟩ := Option.map_eq_some_iff.mp hv
    obtain ⟨B, ok, hbB⟩ := hBs i (Nat.le_refl _) b hb'
    refine ⟨cln H, b, B, ok, cln_nt H, fun _ => none, env_bag (by rw [List.length_set]; exact hl') hib hbB (List.getElem?_set_self (by rw [hl']; exact hib)) tb, ?_⟩
    have nlb : l ≠ b := fun z => nl (by rw [z]; exact List.mem_of_getElem? hb')
    have fin : ∀ Γ' σ' H' G', Γ'.length = n → En X.K (fxB ib b (cln H) (fun _ => none) T) G' σ' H' Γ' → (σ'.length = n ∧ LamX.Tabs T H' ∧ H' l = some (.lst (bs.map V.ref)) ∧ ∀ j, i + 1 ≤ j → ∀ b, bs[j]? = some b → ∃ B : Bag, BagOk 100000 B ∧ H' b = some (.lst (bagV B))) := fun Γ' σ' H' G' hΓ E' => by
      refine ⟨by rw [E'.len]; exact hΓ, E'.tab, E'.base l _ (fun z => (fxB_MT.mp z).elim nlb (tabs_ne tb hL)) (cln_lst hL), fun j hj c hc' => ?_⟩
      obtain ⟨B', ok', hc2⟩ := hBs j (by omega) c hc'
      refine ⟨B', ok', E'.base c _ (fun z => ?_) (cln_lst hc2)⟩
      have e : c = b := (fxB_MT.mp z).elim id fun z => (tabs_ne tb hc2 z).elim
      subst e
      have := (List.getElem?_inj (by have := (List.getElem?_eq_some_iff.mp hb').1; omega : i < bs.length) nd).mp (hb'.trans hc'.symm)
      omega
    refine ⟨fun Γ' σ' H' G' hp _ E' => fin Γ' σ' H' G' hp E', fun d Γ' v σ' H' G' hp => hp.elim, fun Γ' σ' H' G' hp => hp.elim, fun Γ' σ' H' G' hp _ E' => fin Γ' σ' H' G' hp E', fun c Γ' σ' H' G' hp => hp.elim⟩
  · rintro σ H ⟨_, _, _⟩
    exact q H
def spLaw (K : PySem.W.Frag) (T : List (Addr × Str) := []) : Sp := fun vs H Q _ => ∃ (a : Addr) (ns : List Int), vs = [.ref a] ∧ SqL K H a (ns.map V.int) ∧ ns.length ≤ 63 ∧ LamX.Tabs T H ∧ ∀ H', Q (.bl true) H'
def spWell (K : PySem.W.Frag) : Sp := fun vs H Q _ => ∃ (c t : Int), vs = [.int c, .int t] ∧ 0 ≤ t ∧ t ≤ 100000 ∧ ∀ p H' B, Same H H' → H p = none → H' p = some (.lst (bagV B)) → BagOk 100000 B → Q (.ref p) H'
def spBags (K : PySem.W.Frag) : Sp := fun vs H Q _ => ∃ (a : Addr) (ns : List Int) (m : Int), vs = [.ref a, .int m] ∧ SqL K H a (ns.map V.int) ∧ ns.length ≤ 63 ∧
  ∀ (l : Addr) (bs : List Addr) (H' : Hp), Same H H' → H' l = some (.lst (bs.map V.ref)) → bs.Nodup → l ∉ bs → (∀ b ∈ bs, ∃ B : Bag, BagOk 100000 B ∧ H' b = some (.lst (bagV B))) → Q (.ref l) H'
end AM

set_option Elab.async false
set_option linter.all false
set_option maxRecDepth 100000
set_option maxHeartbeats 2000000
namespace AM
open PySem PySem.Spec PyProof.Rows L2
structure Bt (mg : Str → Option Value) : Prop where
  isi : mg "isinstance" = none
  int : mg "int" = none
  bool : mg "bool" = none
  str : mg "str" = none
  list : mg "list" = none
  tuple : mg "tuple" = none
  len : mg "len" = none
  abs : mg "abs" = none
  max : mg "max" = none
  min : mg "min" = none
  all : mg "all" = none
  any : mg "any" = none
  sum : mg "sum" = none
  range : mg "range" = none
  enum : mg "enumerate" = none
  zip : mg "zip" = none
  sorted : mg "sorted" = none
  dict : mg "dict" = none
  set : mg "set" = none
theorem bt_int : bootBuiltins "int" = some (.type "int") := by decide +kernel
theorem bt_bool : bootBuiltins "bool" = some (.type "bool") := by decide +kernel
theorem bt_str : bootBuiltins "str" = some (.type "str") := by decide +kernel
theorem bt_list : bootBuiltins "list" = some (.type "list") := by decide +kernel
theorem bt_tuple : bootBuiltins "tuple" = some (.type "tuple") := by decide +kernel
structure Def (K : PySem.W.Frag) (mg : Str → Option Value) (x : Str) (st : Stmt) (ps : List Str) : Prop where
  ex : ∃ f fd, FunG K x x st f fd ∧ mg x = some (.ref f) ∧ Binds K fd ps []
structure Cal (P : Program) (w : World) (K : PySem.W.Frag) (mg : Str → Option Value) (base : Heap) (k : Nat) (x : Str) (ps : List Str) (sp : Sp) : Prop where
  ex : ∃ f fd, FnOk P w K mg base (L2.CX P w) k f fd ps sp ∧ mg x = some (.ref f) ∧ PySem.W.keepIn K (.ref f) = true ∧ Binds K fd ps []
section
variable {P : Program} {w : World} {K : PySem.W.Frag} {mg : Str → Option Value} {base : Heap} {k : Nat} {x : Str} {st : Stmt} {N ps : List Str} {sp sp' : Sp}
theorem Cal.mono {j : Nat} (C : Cal P w K mg base j x ps sp) (h : j ≤ k) : Cal P w K mg base k x ps sp := by
  obtain ⟨f, fd, h1, h2, h3, h4⟩ := C.ex
  exact ⟨f, fd, h1.mono h, h2, h3, h4⟩
theorem Cal.imp (C : Cal P w K mg base k x ps sp) (h : ∀ vs H Q E, sp' vs H Q E → sp vs H Q E) : Cal P w K mg base k x ps sp' := by
  obtain ⟨f, fd, h1, h2, h3, h4⟩ := C.ex
  exact ⟨f, fd, h1.imp h, h2, h3, h4⟩
theorem cal_pure {R : List PyData → Res → Prop} (D : Def K mg x st ps) (S : FnScope N ps (defScope st)) (len : ∀ ds r, R ds r → ds.length = ps.length) (hle : ps.length ≤ N.length)
    (body : ∀ (f : Addr) (cdv : Value) (A : Around) (outer : List PySem.Env) (s : Shared) (H G : Hp) (E : XK) (ds : List PyData) (r : Res), Room k (A.deeper (envOfC x (defScope st) s.heap.objs.size f cdv)) → R ds r →
      PSs (cxOf (L2.CX P w) P w K mg base N x (defScope st) f cdv A outer s H E) (defBody st) (tS K (fx0 H G) (fun c d _ H => E c d H) (startG N.length ds) (wantP r))) : Cal P w K mg base (k + 1) x ps (spP K R) := by
  obtain ⟨f, fd, F, h1, h2⟩ := D.ex
  exact ⟨f, fd, fn_pure F S len hle (body f), h1, F.kp, h2⟩
theorem cal_bag {R : List PyData → List PyData → PyData → List PyData → Prop} (D : Def K mg x st ps) (S : FnScope N ps (defScope st)) (len : ∀ xs ds d xs', R xs ds d xs' → ds.length + 1 = ps.length) (hle : ps.length ≤ N.length)
    (body : ∀ (f : Addr) (cdv : Value) (A : Around) (outer : List PySem.Env) (s : Shared) (H G : Hp) (E : XK) (p : Addr) (xs ds : List PyData) (d : PyData) (xs' : List PyData), Room k (A.deeper (envOfC x (defScope st) s.heap.objs.size f cdv)) → R xs ds d xs' →
      PSs (cxOf (L2.CX P w) P w K mg base N x (defScope st) f cdv A outer s H E) (defBody st) (tS K (fxB 0 p H G) (fun c d _ H => E c d H) (startB N.length xs ds) (wantB d xs'))) : Cal P w K mg base (k + 1) x ps (spB K R) := by
  obtain ⟨f, fd, F, h1, h2⟩ := D.ex
  exact ⟨f, fd, fn_bag F S len hle (body f), h1, F.kp, h2⟩
theorem cal_raw (D : Def K mg x st ps) (S : FnScope N ps (defScope st)) (len : ∀ vs H Q E, sp vs H Q E → vs.length = ps.length)
    (body : ∀ (f : Addr) (cdv : Value) (A : Around) (outer : List PySem.Env) (s : Shared) (H : Hp) (vs : List V) (Q : VK) (E : XK), Room k (A.deeper (envOfC x (defScope st) s.heap.objs.size f cdv)) → sp vs H Q E →
      ∃ t, PSs (cxOf (L2.CX P w) P w K mg base N x (defScope st) f cdv A outer s H E) (defBody st) t ∧ t { nx := fun _ H' => Q .non H', rt := Q } (L2.start N vs) H) : Cal P w K mg base (k + 1) x ps sp := by
  obtain ⟨f, fd, F, h1, h2⟩ := D.ex
  exact ⟨f, fd, F.okX S len (body f), h1, F.kp, h2⟩
end
section
variable {X : Cx} {F : Fx} {Γ Γ1 Γ2 : List Sl} {a b c e : Expr} {es : List Expr} {pos p p2 : Pos} {k : Nat} {ps : List Str} {x : Str} {rs : List Rv} {xs xs' ds : List PyData} {d da : PyData} {i : Nat} {ra : Rv}
theorem dc {R : List PyData → Res → Prop} (C : Cal X.prog X.w X.K X.mg X.base k x ps (spP X.K R)) (hr : Room k X.A) (ha : PA X (e :: es) (tDA X.K F Γ rs Γ1)) (hR : R ds (.ok d)) (hd : datS rs = some ds := by rfl)
    (hg : Gl X x := by rfl) (hdb : (x == ("__debug__" : Str)) = false := by decide) (he : starEach (e :: es) X.env = (false, eval e X.env) :: starEach es X.env := by rfl) (hpl : (backTo pos (starEach es X.env)).any (·.1) = false := by rfl) :
    PE X (.Call (.Name x p) (e :: es) [] pos) (tD X.K F Γ (.dat d) Γ1) := by
  obtain ⟨f, fd, h1, h2, h3, h4⟩ := C.ex
  exact de_call h1 hr h2 h3 h4 ha hR hd hg hdb he hpl
theorem dcb {R : List PyData → List PyData → PyData → List PyData → Prop} (C : Cal X.prog X.w X.K X.mg X.base k x ps (spB X.K R)) (hr : Room k X.A) (ha : PA X (e :: es) (tDA X.K F Γ (.al i :: rs) Γ1)) (hR : R xs ds d xs') (hl : lk Γ1 i = .own xs := by rfl) (hd : datS rs = some ds := by rfl)
    (hg : Gl X x := by rfl) (hdb : (x == ("__debug__" : Str)) = false := by decide) (he : starEach (e :: es) X.env = (false, eval e X.env) :: starEach es X.env := by rfl) (hpl : (backTo pos (starEach es X.env)).any (·.1) = false := by rfl) :
    PE X (.Call (.Name x p) (e :: es) [] pos) (tD X.K F Γ (.dat d) (st Γ1 i (.own xs'))) := by
  obtain ⟨f, fd, h1, h2, h3, h4⟩ := C.ex
  exact de_bag h1 hr h2 h3 h4 ha hR hl hd hg hdb he hpl
theorem de_isiI (B : Bt X.mg) (ha : PE X a (tD X.K F Γ ra Γ1)) (va : vw Γ1 ra = some da := by rfl) (hg : Gl X "isinstance" := by rfl) (hgT : Gl X "int" := by rfl)
    (he : starEach [a, .Name "int" p2] X.env = (false, eval a X.env) :: starEach [.Name "int" p2] X.env := by rfl) (he2 : starEach [.Name "int" p2] X.env = (false, eval (.Name "int" p2) X.env) :: starEach [] X.env := by rfl) (hpl : (backTo pos (starEach [.Name "int" p2] X.env)).any (·.1) = false := by rfl) :
    PE X (.Call (.Name "isinstance" p) [a, .Name "int" p2] [] pos) (tD X.K F Γ (.dat (.bool (isI da))) Γ1) := by
  have h := de_isi (p := p) (pos := pos) (p2 := p2) "int" (.inl rfl) ha B.isi B.int bt_int va hg hgT (by decide) (by decide) he he2 hpl
  rw [isi_int] at h
  exact h
theorem de_isiB (B : Bt X.mg) (ha : PE X a (tD X.K F Γ ra Γ1)) (va : vw Γ1 ra = some da := by rfl) (hg : Gl X "isinstance" := by rfl) (hgT : Gl X "bool" := by rfl)
    (he : starEach [a, .Name "bool" p2] X.env = (false, eval a X.env) :: starEach [.Name "bool" p2] X.env := by rfl) (he2 : starEach [.Name "bool" p2] X.env = (false, eval (.Name "bool" p2) X.env) :: starEach [] X.env := by rfl) (hpl : (backTo pos (starEach [.Name "bool" p2] X.env)).any (·.1) = false := by rfl) :
    PE X (.Call (.Name "isinstance" p) [a, .Name "bool" p2] [] pos) (tD X.K F Γ (.dat (.bool (isB da))) Γ1) := by
  have h := de_isi (p := p) (pos := pos) (p2 := p2) "bool" (.inr (.inl rfl)) ha B.isi B.bool bt_bool va hg hgT (by decide) (by decide) he he2 hpl
  rw [isi_bool] at h
  exact h
theorem de_isiS (B : Bt X.mg) (ha : PE X a (tD X.K F Γ ra Γ1)) (va : vw Γ1 ra = some da := by rfl) (hg : Gl X "isinstance" := by rfl) (hgT : Gl X "str" := by rfl)
    (he : starEach [a, .Name "str" p2] X.env = (false, eval a X.env) :: starEach [.Name "str" p2] X.env := by rfl) (he2 : starEach [.Name "str" p2] X.env = (false, eval (.Name "str" p2) X.env) :: starEach [] X.env := by rfl) (hpl : (backTo pos (starEach [.Name "str" p2] X.env)).any (·.1) = false := by rfl) :
    PE X (.Call (.Name "isinstance" p) [a, .Name "str" p2] [] pos) (tD X.K F Γ (.dat (.bool (isS da))) Γ1) := by
  have h := de_isi (p := p) (pos := pos) (p2 := p2) "str" (.inr (.inr (.inl rfl))) ha B.isi B.str bt_str va hg hgT (by decide) (by decide) he he2 hpl
  rw [isi_str] at h
  exact h
theorem de_isiL (B : Bt X.mg) (ha : PE X a (tD X.K F Γ ra Γ1)) (va : vw Γ1 ra = some da := by rfl) (hg : Gl X "isinstance" := by rfl) (hgT : Gl X "list" := by rfl)
    (he : starEach [a, .Name "list" p2] X.env = (false, eval a X.env) :: starEach [.Name "list" p2] X.env := by rfl) (he2 : starEach [.Name "list" p2] X.env = (false, eval (.Name "list" p2) X.env) :: starEach [] X.env := by rfl) (hpl : (backTo pos (starEach [.Name "list" p2] X.env)).any (·.1) = false := by rfl) :
    PE X (.Call (.Name "isinstance" p) [a, .Name "list" p2] [] pos) (tD X.K F Γ (.dat (.bool (isL da))) Γ1) := by
  have h := de_isi (p := p) (pos := pos) (p2 := p2) "list" (.inr (.inr (.inr (.inl rfl)))) ha B.isi B.list bt_list va hg hgT (by decide) (by decide) he he2 hpl
  rw [isi_list] at h
  exact h
theorem de_isiT (B : Bt X.mg) (ha : PE X a (tD X.K F Γ ra Γ1)) (va : vw Γ1 ra = some da := by rfl) (hg : Gl X "isinstance" := by rfl) (hgT : Gl X "tuple" := by rfl)
    (he : starEach [a, .Name "tuple" p2] X.env = (false, eval a X.env) :: starEach [.Name "tuple" p2] X.env := by rfl) (he2 : starEach [.Name "tuple" p2] X.env = (false, eval (.Name "tuple" p2) X.env) :: starEach [] X.env := by rfl) (hpl : (backTo pos (starEach [.Name "tuple" p2] X.env)).any (·.1) = false := by rfl) :
    PE X (.Call (.Name "isinstance" p) [a, .Name "tuple" p2] [] pos) (tD X.K F Γ (.dat (.bool (isT da))) Γ1) := by
  have h := de_isi (p := p) (pos := pos) (p2 := p2) "tuple" (.inr (.inr (.inr (.inr rfl)))) ha B.isi B.tuple bt_tuple va hg hgT (by decide) (by decide) he he2 hpl
  rw [isi_tuple] at h
  exact h
theorem ty_bool (B : Bt X.mg) : TyN X "bool" "bool" := ⟨.inr (.inl rfl), B.bool, bt_bool⟩
theorem ty_list (B : Bt X.mg) : TyN X "list" "list" := ⟨.inr (.inr (.inr (.inl rfl))), B.list, bt_list⟩
theorem ty_tuple (B : Bt X.mg) : TyN X "tuple" "tuple" := ⟨.inr (.inr (.inr (.inr rfl))), B.tuple, bt_tuple⟩
theorem isi_blt (d : PyData) : (["bool", "list", "tuple"].any fun T => isiD T d) = (isB d || isL d || isT d) := by
  simp only [List.any_cons, List.any_nil, isi_bool, isi_list, isi_tuple, Bool.or_false, Bool.or_assoc]
theorem de_as {r r' : Rv} (h : PE X e (tD X.K F Γ r Γ1)) (hr : r = r') : PE X e (tD X.K F Γ r' Γ1) := hr ▸ h
theorem dt_as {k k' : Bool} (h : PT X e (tDT X.K F Γ k Γ1)) (hr : k = k') : PT X e (tDT X.K F Γ k' Γ1) := hr ▸ h
theorem de_to {r : Rv} {Γ' : List Sl} (h : PE X e (tD X.K F Γ r Γ1)) (hr : Γ1 = Γ') : PE X e (tD X.K F Γ r Γ') := hr ▸ h
end
end AM
namespace AM
open PySem PySem.Spec PyProof.Rows L2
theorem mulL {i j : Int} (h : i.natAbs < 2 ^ 64) : IntMulOk i j := .of_left (intBits_le_iff.mpr h)
theorem mulR {i j : Int} (h : j.natAbs < 2 ^ 64) : IntMulOk i j := .of_right (intBits_le_iff.mpr h)
theorem mulB {i j : Int} (m n : Nat) (hi : i.natAbs < 2 ^ m) (hj : j.natAbs < 2 ^ n) (h : m + n ≤ 134217728) : IntMulOk i j := .of_le (intBits_le_iff.mpr hi) (intBits_le_iff.mpr hj) h
theorem divC (i : Int) {j : Int} (h0 : j ≠ 0) (n : Nat) (h : j.natAbs < 2 ^ n) (hn : n ≤ 9000) : CDivA i j := ⟨h0, Nat.lt_of_lt_of_le h (Nat.pow_le_pow_right (by decide) hn)⟩
section
variable {X : Cx} {F : Fx} {Γ Γ1 Γ2 : List Sl} {a b e elt iter : Expr} {pos p p2 : Pos} {scope : Scope} {ds : List PyData} {x : Str} {px : Pos}
theorem de_pw {i j : Int} (m : Int) (ha : PE X a (tD X.K F Γ (.dat (.int i)) Γ1)) (hb : PE X b (tD X.K F Γ1 (.dat (.int j)) Γ2)) (hc : CPow i j := by exact ⟨by decide, by decide, by decide⟩) (hm : i ^ j.toNat = m := by decide) : PE X (.BinOp a .Pow b pos) (tD X.K F Γ (.dat (.int m)) Γ2) := hm ▸ de_pow ha hb hc
end
def isWhole : PyData → Bool
  | .int _ => true
  | _ => false
theorem isWhole_eq (d : PyData) : (isI d && !isB d) = isWhole d := by cases d <;> rfl
theorem ints_of : ∀ {ds : List PyData}, ds.all isWhole = true → ∃ ns : List Int, ds = ns.map .int
  | [], _ => ⟨[], rfl⟩
  | d :: ds, h => by
    rw [List.all_cons, Bool.and_eq_true] at h
    obtain ⟨ns, rfl⟩ := ints_of h.2
    cases d with
    | int i => exact ⟨i :: ns, rfl⟩
    | _ => cases h.1
theorem all_ints (ns : List Int) : (ns.map PyData.int).all isWhole = true := by simp [List.all_map]; intro _ _; rfl
theorem shaped_ints (ns : List Int) : SeqAt.shaped (.tuple (ns.map .int)) = true := by
  have h1 : ∀ ns : List Int, PyData.canLayAll0 (ns.map .int) = true := by
    intro ns
    induction ns with
    | nil => rfl
    | cons n r ih => simp [PyData.canLayAll0, PyData.canLay0, ih]
  have h2 : ∀ ns : List Int, PyData.depthAll (ns.map .int) = 0 := by
    intro ns
    induction ns with
    | nil => rfl
    | cons n r ih => simp [PyData.depthAll, PyData.depth, ih]
  unfold SeqAt.shaped
  simp [PyData.canLay0, PyData.depth, h1, h2]
theorem shaped_intsL (ns : List Int) : SeqAt.shaped (.list (ns.map .int)) = true := by
  have h := shaped_ints ns
  unfold SeqAt.shaped at h ⊢
  simpa [PyData.canLay0, PyData.depth] using h
theorem eqv_nilT (ds : List PyData) : PyData.eqv (.tuple ds) (.tuple []) = ds.isEmpty := by cases ds <;> simp [PyData.eqv, PyData.eqvAll]
theorem eqv_nilL (ds : List PyData) : PyData.eqv (.list ds) (.list []) = ds.isEmpty := by cases ds <;> simp [PyData.eqv, PyData.eqvAll]
theorem eqvAll_ints : ∀ as bs : List Int, PyData.eqvAll (as.map .int) (bs.map .int) = decide (as = bs)
  | [], [] => by simp [PyData.eqvAll]
  | [], _ :: _ => by simp [PyData.eqvAll]
  | _ :: _, [] => by simp [PyData.eqvAll]
  | a :: as, b :: bs => by
    simp only [List.map_cons, PyData.eqvAll, PyData.eqv, eqvAll_ints as bs, List.cons.injEq, Bool.decide_and]
    first | rfl | (congr 1; simp [Bool.beq_eq_decide_eq])
theorem eqv_intsT (as bs : List Int) : PyData.eqv (.tuple (as.map .int)) (.tuple (bs.map .int)) = decide (as = bs) := by rw [← eqvAll_ints]; simp [PyData.eqv]
theorem eqv_intsL (as bs : List Int) : PyData.eqv (.list (as.map .int)) (.list (bs.map .int)) = decide (as = bs) := by rw [← eqvAll_ints]; simp [PyData.eqv]
end AM
namespace AM
open PySem PySem.Spec PyProof.Rows L2
section
variable {X : Cx} {F : Fx} {Γ Γ1 Γ2 : List Sl} {a b e elt iter tg c : Expr} {pos p p2 : Pos} {scope : Scope} {ds : List PyData} {own : List (Str × Nat)} {g : TG} {A : PyData → List Sl → List Sl → Prop}
theorem lr_mapT (f : PyData → PyData) (hi : PI X tg iter (tI X.K F Γ ds Γ1)) (T : Tgt X.K F g (own.map (·.2)) A) (hN : X.N.Nodup) (ok : BlkOk X.N X.env.scope scope own)
    (hg : ∀ (s : Shared) (H : Hp) (C : Addr) (cl : List (Str × Addr)) (fp : List Addr), PG (X.blk s H scope (compEnvC scope cl C X.env) fp) tg g) (hz : ds.length < 100000)
    (turn : ∀ d, d ∈ ds → ∃ Γt, A d (wpG Γ1 (own.map (·.2))) Γt ∧ wpG Γt (own.map (·.2)) = wpG Γ1 (own.map (·.2)) ∧ ∀ (s : Shared) (H : Hp) (C : Addr) (cl : List (Str × Addr)) (fp : List Addr), PE (X.blk s H scope (compEnvC scope cl C X.env) fp) elt (tD X.K F Γt (.dat (f d)) Γt))
    (hpf : (own.map (·.2)).all (pf F) = true := by rfl) :
    LcR X F Γ elt tg iter [] scope own (ds.map f) (wpG Γ1 (own.map (·.2))) := by
  refine lr_lc (own := own) (A := A) (fun j acc Γ => acc = (ds.take j).map f ∧ Γ = wpG Γ1 (own.map (·.2))) hi T hN ok hg ⟨by simp, rfl⟩ hz (fun j d acc Γ hd ⟨e1, e2⟩ => ?_) (fun acc Γ ⟨e1, e2⟩ => ⟨by rw [e1, List.take_length], e2⟩) hpf
  subst e1 e2
  obtain ⟨Γt, hA, hw, he⟩ := turn d (List.mem_of_getElem? hd)
  refine ⟨Γt, true, hA, fun _ _ _ _ _ => pts_no, fun h => (by cases h), fun _ => ⟨f d, Γt, he, ?_, hw⟩⟩
  rw [List.take_add_one, hd, List.map_append]; rfl
theorem lr_filT (q : PyData → Bool) (f : PyData → PyData) (hi : PI X tg iter (tI X.K F Γ ds Γ1)) (T : Tgt X.K F g (own.map (·.2)) A) (hN : X.N.Nodup) (ok : BlkOk X.N X.env.scope scope own)
    (hg : ∀ (s : Shared) (H : Hp) (C : Addr) (cl : List (Str × Addr)) (fp : List Addr), PG (X.blk s H scope (compEnvC scope cl C X.env) fp) tg g) (hz : ds.length < 100000)
    (turn : ∀ d, d ∈ ds → ∃ Γt, A d (wpG Γ1 (own.map (·.2))) Γt ∧ wpG Γt (own.map (·.2)) = wpG Γ1 (own.map (·.2)) ∧ (∀ (s : Shared) (H : Hp) (C : Addr) (cl : List (Str × Addr)) (fp : List Addr), PT (X.blk s H scope (compEnvC scope cl C X.env) fp) c (tDT X.K F Γt (q d) Γt)) ∧
      (q d = true → ∀ (s : Shared) (H : Hp) (C : Addr) (cl : List (Str × Addr)) (fp : List Addr), PE (X.blk s H scope (compEnvC scope cl C X.env) fp) elt (tD X.K F Γt (.dat (f d)) Γt)))
    (hpf : (own.map (·.2)).all (pf F) = true := by rfl) :
    LcR X F Γ elt tg iter [c] scope own ((ds.filter q).map f) (wpG Γ1 (own.map (·.2))) := by
  refine lr_lc (own := own) (A := A) (fun j acc Γ => acc = ((ds.take j).filter q).map f ∧ Γ = wpG Γ1 (own.map (·.2))) hi T hN ok hg ⟨by simp, rfl⟩ hz (fun j d acc Γ hd ⟨e1, e2⟩ => ?_) (fun acc Γ ⟨e1, e2⟩ => ⟨by rw [e1, List.take_length], e2⟩) hpf
  subst e1 e2
  obtain ⟨Γt, hA, hw, ht, he⟩ := turn d (List.mem_of_getElem? hd)
  refine ⟨Γt, q d, hA, fun s H C cl fp => pts_if (ht s H C cl fp), fun h => ⟨?_, hw⟩, fun h => ⟨f d, Γt, he h, ?_, hw⟩⟩
  · rw [List.take_add_one, hd, List.filter_append]
    simp [h]
  · rw [List.take_add_one, hd, List.filter_append, List.map_append]
    simp [h]
end
mutual
def sameD : PyData → PyData → Bool
  | .none, .none => true
  | .bool a, .bool b => decide (a = b)
  | .int a, .int b => decide (a = b)
  | .str a, .str b => decide (a = b)
  | .list as, .list bs => sameAll as bs
  | .tuple as, .tuple bs => sameAll as bs
  | _, _ => false
def sameAll : List PyData → List PyData → Bool
  | [], [] => true
  | a :: as, b :: bs => sameD a b && sameAll as bs
  | _, _ => false
end
def samePair : PyData → Bool
  | .tuple [x, y] => sameD x y
  | _ => false
theorem sameAll_eq : ∀ as bs : List PyData, sameAll as bs = (decide (as.length = bs.length) && ((zipD as bs).map samePair).all id)
  | [], [] => rfl
  | [], b :: bs => by simp [sameAll]
  | a :: as, [] => by simp [sameAll]
  | a :: as, b :: bs => by
    have ih := sameAll_eq as bs
    simp only [sameAll, ih, zipD, List.zipWith_cons_cons, List.map_cons, List.all_cons, List.length_cons, id, samePair]
    by_cases h : as.length = bs.length
    · simp [h]
    · simp [h]
def okS : Nat → PyData → Prop
  | 0, .list _ => False
  | 0, .tuple _ => False
  | n + 1, .list ds => ds.length < 100000 ∧ ∀ d ∈ ds, okS n d
  | n + 1, .tuple ds => ds.length < 100000 ∧ ∀ d ∈ ds, okS n d
  | _, _ => True
mutual
def noDict : PyData → Bool
  | .dict _ => false
  | .list ds => noDictA ds
  | .tuple ds => noDictA ds
  | _ => true
def noDictA : List PyData → Bool
  | [] => true
  | d :: ds => noDict d && noDictA ds
end
mutual
theorem sameD_refl : ∀ d : PyData, noDict d = true → sameD d d = true
  | .none, _ => rfl
  | .bool b, _ => by simp [sameD]
  | .int b, _ => by simp [sameD]
  | .str b, _ => by simp [sameD]
  | .list ds, h => by simp only [sameD]; exact sameAll_refl ds (by simpa [noDict] using h)
  | .tuple ds, h => by simp only [sameD]; exact sameAll_refl ds (by simpa [noDict] using h)
  | .dict _, h => by simp [noDict] at h
theorem sameAll_refl : ∀ ds : List PyData, noDictA ds = true → sameAll ds ds = true
  | [], _ => rfl
  | d :: ds, h => by
    simp only [noDictA, Bool.and_eq_true] at h
    simp only [sameAll, sameD_refl d h.1, sameAll_refl ds h.2, Bool.and_self]
end
def R_same (n : Nat) : List PyData → Res → Prop := fun ds r => ∃ a b, ds = [a, b] ∧ okS n a ∧ okS n b ∧ r = .ok (.bool (sameD a b))
theorem okS_mem {n : Nat} {ds : List PyData} (h : ∀ d ∈ ds, okS n d) {d : PyData} (m : d ∈ ds) : okS n d := h d m
theorem okS_ints (n : Nat) (ns : List Int) (h : ns.length < 100000) : okS (n + 1) (.tuple (ns.map .int)) := ⟨by rw [List.length_map]; exact h, fun d m => by
  obtain ⟨i, _, rfl⟩ := List.mem_map.mp m
  cases n <;> trivial⟩
theorem okS_intsL (n : Nat) (ns : List Int) (h : ns.length < 100000) : okS (n + 1) (.list (ns.map .int)) := ⟨by rw [List.length_map]; exact h, fun d m => by
  obtain ⟨i, _, rfl⟩ := List.mem_map.mp m
  cases n <;> trivial⟩
theorem okS_atom (n : Nat) (d : PyData) (h : isL d = false) (h2 : isT d = false) : okS n d := by
  cases d with
  | list _ => cases h
  | tuple _ => cases h2
  | _ => cases n <;> trivial
theorem zipD_mem {as bs : List PyData} {d : PyData} (h : d ∈ zipD as bs) : ∃ x y, d = .tuple [x, y] ∧ x ∈ as ∧ y ∈ bs := by
  induction as generalizing bs with
  | nil => cases h
  | cons a as ih =>
    cases bs with
    | nil => cases h
    | cons b bs =>
      rcases List.mem_cons.mp h with rfl | h
      · exact ⟨a, b, rfl, List.mem_cons_self, List.mem_cons_self⟩
      · obtain ⟨x, y, e, h1, h2⟩ := ih h
        exact ⟨x, y, e, List.mem_cons_of_mem _ h1, List.mem_cons_of_mem _ h2⟩
end AM
namespace AM
open PySem PySem.Spec PyProof.Rows L2
def lastOk (ns : List Int) : Bool := ns.isEmpty || !decide (ns.getLast?.getD 0 = 0)
def intsD : List PyData → List Int
  | [] => []
  | .int i :: r => i :: intsD r
  | _ :: r => intsD r
theorem intsD_map (ns : List Int) : intsD (ns.map .int) = ns := by
  induction ns with
  | nil => rfl
  | cons n r ih => show n :: intsD (r.map .int) = n :: r; rw [ih]
def isPolyD : PyData → Bool
  | .tuple es => decide (es.length ≤ 13) && es.all isWhole && lastOk (intsD es)
  | _ => false
theorem isPolyD_ints (ns : List Int) : isPolyD (.tuple (ns.map .int)) = (decide (ns.length ≤ 13) && lastOk ns) := by
  simp only [isPolyD, List.length_map, all_ints, intsD_map, Bool.and_true]
theorem isPolyD_bad {es : List PyData} (h : ((!isT (.tuple es)) || (decide ((12 + 1 : Int) < (es.length : Int)) || !((es.map isWhole).all id))) = true) : isPolyD (.tuple es) = false := by
  have h' : decide ((12 + 1 : Int) < (es.length : Int)) = true ∨ (es.map isWhole).all id = false := by simpa [isT] using h
  rcases h' with h | h
  · have : ¬ es.length ≤ 13 := by have := of_decide_eq_true h; omega
    simp [isPolyD, this]
  · have : es.all isWhole = false := by rw [← h, List.all_map]; rfl
    simp [isPolyD, this]
theorem isPolyD_good {es : List PyData} (h : ((!isT (.tuple es)) || (decide ((12 + 1 : Int) < (es.length : Int)) || !((es.map isWhole).all id))) = false) : ∃ ns : List Int, es = ns.map .int ∧ ns.length ≤ 13 := by
  rw [Bool.or_eq_false_iff, Bool.or_eq_false_iff] at h
  obtain ⟨_, h1, h2⟩ := h
  have h3 : es.all isWhole = true := by
    have : (es.map isWhole).all id = true := by simpa using h2
    rw [List.all_map] at this
    exact this
  obtain ⟨ns, rfl⟩ := ints_of h3
  refine ⟨ns, rfl, ?_⟩
  have := of_decide_eq_false h1
  rw [List.length_map] at this
  omega
theorem last_atI {ns : List Int} {n : Int} (h : ns.getLast? = some n) : atI (ns.map PyData.int) (-1) = some (.int n) := by
  have hne : ns ≠ [] := by rintro rfl; cases h
  have e : ns = ns.dropLast ++ [n] := by
    have h2 := List.dropLast_concat_getLast hne
    rw [List.getLast?_eq_getLast hne] at h
    cases h
    exact h2.symm
  rw [e, List.map_append]
  exact atI_last _ _
end AM
namespace AM
open PySem PySem.Spec PyProof.Rows L2
theorem ds_skip {X : Cx} {F : Fx} {W : WX} {Γ : List Sl} {P : Out → Prop} {rest : List Stmt} (h : PSs X rest (tS X.K F W Γ P)) : PSs X [] (tS X.K F W Γ (thn' X F W rest P)) := ds_nil h
theorem cx_no {P : Program} {w : World} {o : List PySem.Env} {H : Hp} {s s' : Shared} {e : Value} (h : L2.CX P w o H s (fun _ _ _ => False) e s') : False := by
  obtain ⟨_, _, _, _, _, _, _, _, _, _, _, _, z⟩ := h
  exact z
end AM
namespace AM
open PySem PySem.Spec PyProof.Rows L2
theorem de_nilT {X : Cx} {F : Fx} {Γ : List Sl} {x1} {pos : Pos} : PE X (.Tuple [] x1 pos) (tD X.K F Γ (.dat (.tuple [])) Γ) := de_tup (ds := []) da_nil (by decide)
theorem dn_nilL {X : Cx} {F : Fx} {Γ : List Sl} {pos : Pos} : PE X (.List [] pos) (tN X.K F Γ [] Γ) := dn_lst (ds := []) da_nil (by decide)
theorem shaped_nilT : SeqAt.shaped (.tuple []) = true := shaped_ints []
theorem shaped_nilL : SeqAt.shaped (.list []) = true := shaped_intsL []
end AM
namespace AM
open PySem PySem.Spec PyProof.Rows L2
def wellB (c t : Int) : Bag := if 1000000000000000000 ≤ c then ⟨c - 1000000000000000000, c.fmod P61, t⟩ else ⟨0, c.fmod P61, t⟩
def R_well : List PyData → Res → Prop := fun ds r => ∃ c t : Int, ds = [.int c, .int t] ∧ r = .ok (.list (bagD (wellB c t)))
theorem wellB_ok {c t : Int} (h0 : 0 ≤ t) (h1 : t ≤ 100000) : BagOk 100000 (wellB c t) := by
  have r := fmod_rng c (m := P61) (by decide)
  unfold wellB
  split
  · exact ⟨r.1, r.2, h0, h1⟩
  · exact ⟨r.1, r.2, h0, h1⟩
theorem well_imp {K : PySem.W.Frag} (vs : List V) (H : Hp) (Q : VK) (E : XK) (h : spWell K vs H Q E) : spP K R_well vs H Q E := by
  obtain ⟨c, t, rfl, h0, h1, q⟩ := h
  refine ⟨fun _ => none, [.int c, .int t], _, fun a o h => (by cases h), fun a o h => (by cases h), .cons (.int _) (.cons (.int _) .nil), ⟨c, t, rfl, rfl⟩, fun v H' G' g hv => ?_⟩
  obtain ⟨p, vs, rfl, hp, ha⟩ := dp_lst hv
  have e : vs = bagV (wellB c t) := by
    have : bagD (wellB c t) = [(wellB c t).x, (wellB c t).y, (wellB c t).z].map .int := rfl
    rw [this] at ha
    rw [dpa_ints ha]; rfl
  subst e
  have hn : H p = none := by
    rcases g.f p _ hp with ⟨o, z⟩ | z
    · cases z
    · exact z
  exact q p H' (wellB c t) g.h hn (g.le _ _ hp) (wellB_ok h0 h1)
def R_take : List PyData → List PyData → PyData → List PyData → Prop := fun xs ds d xs' => ∃ (b : Bag) (m n : Int), BagOk n b ∧ n ≤ 1000000000 ∧ 0 < m ∧ m < 2 ^ 63 ∧ xs = bagD b ∧ ds = [.int m] ∧ d = .int (take b m).1 ∧ xs' = bagD (take b m).2
theorem rtk {b : Bag} {n : Int} (m : Int) (ok : BagOk n b) (hn : n ≤ 1000000000) (h0 : 0 < m := by decide) (h1 : m < 2 ^ 63 := by decide) : R_take (bagD b) [.int m] (.int (take b m).1) (bagD (take b m).2) := ⟨b, m, n, ok, hn, h0, h1, rfl, rfl, rfl, rfl⟩
def RB (M : Int) (f : Bag → Int × Bag) : List PyData → List PyData → PyData → List PyData → Prop := fun xs ds d xs' => ∃ (b : Bag) (n : Int), BagOk n b ∧ n ≤ M ∧ xs = bagD b ∧ ds = [] ∧ d = .int (f b).1 ∧ xs' = bagD (f b).2
def RBd (M : Int) (f : Bag → PyData × Bag) : List PyData → List PyData → PyData → List PyData → Prop := fun xs ds d xs' => ∃ (b : Bag) (n : Int), BagOk n b ∧ n ≤ M ∧ xs = bagD b ∧ ds = [] ∧ d = (f b).1 ∧ xs' = bagD (f b).2
theorem rb {M : Int} {f : Bag → Int × Bag} {b : Bag} {n : Int} (ok : BagOk n b) (hn : n ≤ M) : RB M f (bagD b) [] (.int (f b).1) (bagD (f b).2) := ⟨b, n, ok, hn, rfl, rfl, rfl, rfl⟩
theorem rbd {M : Int} {f : Bag → PyData × Bag} {b : Bag} {n : Int} (ok : BagOk n b) (hn : n ≤ M) : RBd M f (bagD b) [] (f b).1 (bagD (f b).2) := ⟨b, n, ok, hn, rfl, rfl, rfl, rfl⟩
def lawInt (b : Bag) : Int × Bag :=
  if (take b 8).1 < 5 then ((take (take b 8).2 13).1 - 6, (take (take b 8).2 13).2)
  else if (take b 8).1 < 7 then ((take (take b 8).2 201).1 - 100, (take (take b 8).2 201).2)
  else ((take (take b 8).2 2000001).1 - 1000000, (take (take b 8).2 2000001).2)
def wideTab : List Int := [0, 1, -1, 1000000000000000, 0 - 1000000000000000]
def lawWide (b : Bag) : Int × Bag :=
  if (take b 4).1 < 2 then lawInt (take b 4).2
  else if (take b 4).1 = 2 then ((take (take b 4).2 2000000000000001).1 - 1000000000000000, (take (take b 4).2 2000000000000001).2)
  else (wideTab.getD (take (take b 4).2 5).1.toNat 0, (take (take b 4).2 5).2)
def oddTab : List PyData := [.none, .bool true, .bool false, .str "", .str "1", .tuple [], .list [], .tuple [.int 1], .list [.int 1, .int 1], .tuple [.int 1, .int 1], .tuple [.none, .int 1]]
def lawOdd (b : Bag) : PyData × Bag := (oddTab.getD (take b 11).1.toNat .none, (take b 11).2)
theorem tabd_at {ds : List PyData} {i : Int} (h0 : 0 ≤ i) (h1 : i < (ds.length : Int)) : atI ds i = some (ds.getD i.toNat .none) := by
  have hl : i.toNat < ds.length := by omega
  have h : ds[i.toNat]? = some (ds.getD i.toNat .none) := by rw [List.getD_eq_getElem?_getD, List.getElem?_eq_getElem hl]; rfl
  have h2 := atI_nat h
  rw [show ((i.toNat : Nat) : Int) = i by omega] at h2
  exact h2
theorem tab_at {ns : List Int} {i : Int} (h0 : 0 ≤ i) (h1 : i < (ns.length : Int)) : atI (ns.map PyData.int) i = some (.int (ns.getD i.toNat 0)) := by
  have hl : i.toNat < ns.length := by omega
  have h : (ns.map PyData.int)[i.toNat]? = some (.int (ns.getD i.toNat 0)) := by rw [List.getElem?_map, List.getD_eq_getElem?_getD, List.getElem?_eq_getElem hl]; rfl
  have h2 := atI_nat h
  rw [show ((i.toNat : Nat) : Int) = i by omega] at h2
  exact h2
theorem lawInt_ok {n : Int} {b : Bag} (h : BagOk n b) : BagOk (n + 2) (lawInt b).2 := by
  have h1 := take_ok h 8
  unfold lawInt
  split
  · exact (take_ok h1 13).mono (by omega)
  · split
    · exact (take_ok h1 201).mono (by omega)
    · exact (take_ok h1 2000001).mono (by omega)
theorem lawInt_rng (b : Bag) : -1000000 ≤ (lawInt b).1 ∧ (lawInt b).1 ≤ 1000000 := by
  unfold lawInt
  split
  · have := take_rng (take b 8).2 (m := 13) (by decide); constructor <;> (show _ ≤ _; simp only []; omega)
  · split
    · have := take_rng (take b 8).2 (m := 201) (by decide); constructor <;> (show _ ≤ _; simp only []; omega)
    · have := take_rng (take b 8).2 (m := 2000001) (by decide); constructor <;> (show _ ≤ _; simp only []; omega)
theorem lawWide_ok {n : Int} {b : Bag} (h : BagOk n b) : BagOk (n + 3) (lawWide b).2 := by
  have h1 := take_ok h 4
  unfold lawWide
  split
  · exact (lawInt_ok h1).mono (by omega)
  · split
    · exact (take_ok h1 2000000000000001).mono (by omega)
    · exact (take_ok h1 5).mono (by omega)
theorem lawWide_rng (b : Bag) : -1000000000000000 ≤ (lawWide b).1 ∧ (lawWide b).1 ≤ 1000000000000000 := by
  unfold lawWide
  split
  · have := lawInt_rng (take b 4).2; omega
  · split
    · have := take_rng (take b 4).2 (m := 2000000000000001) (by decide); constructor <;> (show _ ≤ _; simp only []; omega)
    · have := take_rng (take b 4).2 (m := 5) (by decide)
      have key : ∀ i : Nat, i < 5 → -1000000000000000 ≤ wideTab.getD i 0 ∧ wideTab.getD i 0 ≤ 1000000000000000 := by decide
      exact key _ (by omega)
theorem lawOdd_ok {n : Int} {b : Bag} (h : BagOk n b) : BagOk (n + 1) (lawOdd b).2 := take_ok h 11
theorem lawOdd_mem (b : Bag) : (lawOdd b).1 ∈ oddTab := by
  have r := take_rng b (m := 11) (by decide)
  have hl : (take b 11).1.toNat < oddTab.length := by show _ < 11; omega
  show oddTab.getD (take b 11).1.toNat .none ∈ oddTab
  rw [List.getD_eq_getElem?_getD, List.getElem?_eq_getElem hl]
  exact List.getElem_mem hl
end AM
namespace AM
open PySem PySem.Spec PyProof.Rows L2
theorem rd_eqB {K : PySem.W.Frag} {F : Fx} {Γ : List Sl} {i j : Bool} : RD2 K F Γ rEq (.dat (.bool i)) (.dat (.bool j)) (.dat (.bool (decide (i = j)))) := fun G H σ x y Q E vx vy k => by
  have e1 := dp_bl vx
  have e2 := dp_bl vy
  subst e1; subst e2
  refine ⟨rfl, k _ H G Step.refl E ?_⟩
  rw [dec_bl, Bool.beq_eq_decide_eq]
  exact .bl _
end AM
namespace AM
open PySem PySem.Spec PyProof.Rows L2
theorem dec_cast (m n : Nat) : decide ((m : Int) = (n : Int)) = decide (m = n) := decide_eq_decide.mpr (by omega)
def bagsW (H1 : Hp) (us : List V) (l D : Addr) (i : Nat) (H : Hp) : Prop := Same H1 H ∧ H l = some (.lst us) ∧ ∃ bs : List Addr, H D = some (.lst (bs.map V.ref)) ∧ bs.Nodup ∧ D ∉ bs ∧ bs.length = i ∧ ∀ b ∈ bs, ∃ B : Bag, BagOk 100000 B ∧ H b = some (.lst (bagV B))
theorem bags_lc {K : PySem.W.Frag} {σ : L2.St} {H1 : Hp} {l D : Addr} {us : List V} {vs : List Nat} {te : TE} {Q : VK} (ik ic : Nat) (hvs : vs = [ik, ic]) (hne : ik ≠ ic) (hk : ik < σ.length) (hc : ic < σ.length) (hl : H1 l = some (.lst us)) (hD : H1 D = none) (hus : us.length ≤ 64) (hint : ∀ u ∈ us, ∃ i, u = V.int i)
    (hte : ∀ (i : Nat) (c : Int) (σ2 : L2.St) (H : Hp) (Q : VK), i < 64 → σ2[ik]? = some (some (.int (i : Int))) → σ2[ic]? = some (some (.int c)) → (∀ p H' B, Same H H' → H p = none → H' p = some (.lst (bagV B)) → BagOk 100000 B → Q (.ref p) H') → te σ2 H Q)
    (q : ∀ (bs : List Addr) (H' : Hp), Same H1 H' → H' D = some (.lst (bs.map V.ref)) → bs.Nodup → D ∉ bs → (∀ b ∈ bs, ∃ B : Bag, BagOk 100000 B ∧ H' b = some (.lst (bagV B))) → Q (.ref D) H') :
    ∃ W : Nat → Nat → Hp → Prop, (∃ m, W 0 m (upd H1 D (.lst []))) ∧ ∀ i m H, W i m H →
      ((Ite K l).stop i H ∧ Q (.ref D) H) ∨ ((Ite K l).go i H ∧ ∃ Nx : Hp → Prop, (∀ H', Nx H' → ∃ m', m' < m ∧ W (i + 1) m' H') ∧ ∀ x H', (Ite K l).yld i H x H' → gTup K 2 (gCons (gName ik) (gCons (gName ic) gNil)) x (wipe σ vs) H' fun σ2 H2 => wipe σ2 vs = wipe σ vs ∧ tYes σ2 H2 fun b H3 =>
        if b = true then te σ2 H3 fun y H4 => ∃ acc, H4 D = some (.lst acc) ∧ acc.length < sizeLine ∧ Nx (upd H4 D (.lst (acc ++ [y]))) else Nx H3) := by
  have nDl : l ≠ D := ne_of_none hl hD
  refine ⟨fun i m H => m = us.length - i ∧ i ≤ us.length ∧ bagsW H1 us l D i H, ⟨us.length, by simp, Nat.zero_le _, same_upd hD, (by rw [upd_ne nDl]; exact hl), [], upd_same, List.nodup_nil, (by simp), rfl, (by simp)⟩, ?_⟩
  rintro i m H ⟨rfl, hle, sm, hL, bs, hB, nd, nD, len, ok⟩
  by_cases hlt : i < us.length
  · refine .inr ⟨⟨us, us[i], .inl (.inl hL), List.getElem?_eq_getElem hlt⟩, fun H' => i + 1 ≤ us.length ∧ bagsW H1 us l D (i + 1) H', fun H' h => ⟨us.length - (i + 1), by omega, rfl, h⟩, fun x H' ⟨T, x1, ex, hT, eH, f1⟩ => ?_⟩
    subst ex eH
    have e1 : x1 = us[i] := Option.some.inj ((f1 us (.inl (.inl hL))).symm.trans (List.getElem?_eq_getElem hlt))
    obtain ⟨c, hcI⟩ := hint _ (List.getElem_mem hlt)
    rw [hcI] at e1
    subst e1
    refine ⟨T, _, rfl, .inl (.inl upd_same), rfl, _, _, rfl, _, _, rfl, rfl, ?_⟩
    have lw : (wipe σ vs).length = σ.length := wipe_length σ vs
    refine ⟨wipe_same (by rw [List.length_set, List.length_set, lw]) fun j hj => ?_, ?_⟩
    · rw [hvs] at hj
      rw [List.getElem?_set_ne (fun z => hj (by simp [z])), List.getElem?_set_ne (fun z => hj (by simp [z])), wipe_out (by rw [hvs]; exact hj)]
    · refine hte i c _ _ _ (by omega) ?_ ?_ fun p H4 B s4 np hp okB => ?_
      · rw [List.getElem?_set_ne (Ne.symm hne), List.getElem?_set_self (by rw [lw]; exact hk)]
      · rw [List.getElem?_set_self (by rw [List.length_set, lw]; exact hc)]
      · have hD2 : (upd H T (.tup [V.int (i : Nat), V.int c])) D = some (.lst (bs.map V.ref)) := by rw [upd_ne (ne_of_none hB hT)]; exact hB
        have hD4 := s4 _ _ hD2
        have npD : p ≠ D := fun z => by rw [z, hD2] at np; cases np
        have nb : ∀ b ∈ bs, b ≠ p ∧ b ≠ D ∧ ∃ B : Bag, BagOk 100000 B ∧ H4 b = some (.lst (bagV B)) := fun b hb => by
          obtain ⟨B', ok', h'⟩ := ok b hb
          have h2 : (upd H T (.tup [V.int (i : Nat), V.int c])) b = some (.lst (bagV B')) := by rw [upd_ne (ne_of_none h' hT)]; exact h'
          exact ⟨fun z => (by rw [z, np] at h2; cases h2), fun z => nD (by rw [← z]; exact hb), B', ok', s4 _ _ h2⟩
        have hl2 : (upd H T (.tup [V.int (i : Nat), V.int c])) l = some (.lst us) := by rw [upd_ne (ne_of_none hL hT)]; exact hL
        refine ⟨_, hD4, by rw [List.length_map, len]; exact Nat.lt_of_lt_of_le (show i < 64 by omega) (by decide), hlt, fun a o h => by rw [upd_ne (ne_of_none h hD)]; exact s4 _ _ (by rw [upd_ne (ne_of_none (sm a o h) hT)]; exact sm a o h), by rw [upd_ne nDl]; exact s4 _ _ hl2, bs ++ [p], by rw [upd_same, List.map_append]; rfl, ?_, ?_, by rw [List.length_append, len]; rfl, fun b hb => ?_⟩
        · rw [List.nodup_append]
          refine ⟨nd, by simp, fun a ha b hb => ?_⟩
          rw [List.mem_singleton] at hb
          subst hb
          exact (nb a ha).1
        · rw [List.mem_append, List.mem_singleton]
          rintro (z | z)
          · exact nD z
          · exact npD z.symm
        · rcases List.mem_append.mp hb with hb | hb
          · obtain ⟨_, n2, B', ok', h'⟩ := nb b hb
            exact ⟨B', ok', by rw [upd_ne n2]; exact h'⟩
          · rw [List.mem_singleton] at hb
            subst hb
            exact ⟨B, okB, by rw [upd_ne npD]; exact hp⟩
  · have e : i = us.length := by omega
    subst e
    exact .inl ⟨⟨us, .inl (.inl hL), Nat.le_refl _⟩, q bs H sm hB nd nD ok⟩
theorem cut_le {us : List V} (m : Int) : (cutV us none (some m)).length ≤ us.length := by
  unfold cutV
  rw [List.length_take, List.length_drop]
  omega
theorem cut_mem {us : List V} {m : Int} {u : V} (h : u ∈ cutV us none (some m)) : u ∈ us := by
  unfold cutV at h
  exact List.mem_of_mem_drop (List.mem_of_mem_take h)
end AM

set_option Elab.async false
set_option linter.all false
set_option maxRecDepth 100000
set_option maxHeartbeats 2000000
namespace AM
open PySem PySem.Spec PyProof.Rows L2
section
variable {X : Cx} {F : Fx} {W : WX} {P : Out → Prop} {Γ Γ1 Γ2 : List Sl} {a b c e : Expr} {es : List Expr} {pos p p2 : Pos} {k : Nat} {rest : List Stmt}
theorem dw_andF {rs : List Expr} (h : PT X a (tDT X.K F Γ false Γ1)) : PW X (.BoolOp .And (a :: b :: rs) pos) (tDT X.K F Γ false Γ1) := by
  refine ⟨fun wh pins s σ H Q I h' => ?_⟩
  refine PyProof.Rows.isTrue_and (thn (h.run pins s σ H (fun c H1 => c = false ∧ Q false H1) I ?_) fun c s1 ⟨H1, I1, q1, q2⟩ => ?_)
  · obtain ⟨G, E, q⟩ := h'
    exact ⟨G, E, fun H1 G1 s1 E1 => ⟨rfl, q H1 G1 s1 E1⟩⟩
  · subst q1
    exact ⟨H1, I1, q2⟩
theorem dw_andT {l : Bool} {rs : List Expr} (h : PT X a (tDT X.K F Γ true Γ1)) (h2 : PW X (.BoolOp .And (b :: rs) pos) (tDT X.K F Γ1 l Γ2)) : PW X (.BoolOp .And (a :: b :: rs) pos) (tDT X.K F Γ l Γ2) :=
  pw_imp (pw_and h h2) fun σ H Q ⟨G, E, q⟩ => ⟨G, E, fun H1 G1 s1 E1 => ⟨G1, E1, fun H2 G2 s2 E2 => q H2 G2 (s1.trans s2) E2⟩⟩
theorem dw_orT {rs : List Expr} (h : PT X a (tDT X.K F Γ true Γ1)) : PW X (.BoolOp .Or (a :: b :: rs) pos) (tDT X.K F Γ true Γ1) := by
  refine ⟨fun wh pins s σ H Q I h' => ?_⟩
  refine PyProof.Rows.isTrue_or (thn (h.run pins s σ H (fun c H1 => c = true ∧ Q true H1) I ?_) fun c s1 ⟨H1, I1, q1, q2⟩ => ?_)
  · obtain ⟨G, E, q⟩ := h'
    exact ⟨G, E, fun H1 G1 s1 E1 => ⟨rfl, q H1 G1 s1 E1⟩⟩
  · subst q1
    exact ⟨H1, I1, q2⟩
theorem dw_orF {l : Bool} {rs : List Expr} (h : PT X a (tDT X.K F Γ false Γ1)) (h2 : PW X (.BoolOp .Or (b :: rs) pos) (tDT X.K F Γ1 l Γ2)) : PW X (.BoolOp .Or (a :: b :: rs) pos) (tDT X.K F Γ l Γ2) :=
  pw_imp (pw_or h h2) fun σ H Q ⟨G, E, q⟩ => ⟨G, E, fun H1 G1 s1 E1 => ⟨G1, E1, fun H2 G2 s2 E2 => q H2 G2 (s1.trans s2) E2⟩⟩
theorem ds_cut {s : Stmt} (J : List Sl → Prop) (t : ∀ Γ, J Γ → PSs X rest (tS X.K F W Γ P)) (h : (∀ Γ, J Γ → PSs X rest (tS X.K F W Γ P)) → PSs X (s :: rest) (tS X.K F W Γ P)) : PSs X (s :: rest) (tS X.K F W Γ P) := h t
theorem ds_to {s : List Stmt} {Γ' : List Sl} (h : PSs X s (tS X.K F W Γ P)) (e : Γ = Γ') : PSs X s (tS X.K F W Γ' P) := e ▸ h
theorem rd_repT {K : PySem.W.Frag} {as : List PyData} {m : Int} (hne : as ≠ []) (h1 : 2 ≤ m) (h2 : m ≤ 1000) (hz : as.length ≤ 1000) : RD2 K F Γ (rRepT K) (.dat (.tuple as)) (.dat (.int m)) (.dat (.tuple (List.replicate m.toNat as).flatten)) := fun G H σ x y Q E vx vy k => by
  obtain ⟨p1, v1, rfl, q1, a1⟩ := dp_tup vx
  refine ⟨p1, m, v1, rfl, dp_int vy, sqT_mono E.le q1, fun e => hne ((dpa_nil_iff a1).mp e), h1, h2, by rw [dpa_len a1]; exact hz, fun l hl' => ?_⟩
  have g := (E.no hl').2.2
  exact k _ _ _ (Step.newDat hl' g) (E.newDat hl') (.tup (SqT.of upd_same) (dpa_mono (same_upd g) _ _ (dpa_flat a1 _)))
theorem de_repT {as : List PyData} {m : Int} (ha : PE X a (tD X.K F Γ (.dat (.tuple as)) Γ1)) (hb : PE X b (tD X.K F Γ1 (.dat (.int m)) Γ2)) (hne : as ≠ []) (h1 : 2 ≤ m) (h2 : m ≤ 1000) (hz : as.length ≤ 1000) : PE X (.BinOp a .Mult b pos) (tD X.K F Γ (.dat (.tuple (List.replicate m.toNat as).flatten)) Γ2) := de_op op_repT (rd_repT hne h1 h2 hz) ha hb
end
def pl : Nat → PyData → Prop
  | _, .none => True
  | _, .bool _ => True
  | _, .int _ => True
  | _, .str s => PyData.canLay0 (.str s) = true
  | n + 1, .list ds => ds.length < 100000 ∧ ∀ d ∈ ds, pl n d
  | n + 1, .tuple ds => ds.length < 100000 ∧ ∀ d ∈ ds, pl n d
  | _, _ => False
theorem pl_list {n : Nat} {ds : List PyData} : pl (n + 1) (.list ds) ↔ ds.length < 100000 ∧ ∀ d ∈ ds, pl n d := Iff.rfl
theorem pl_tuple {n : Nat} {ds : List PyData} : pl (n + 1) (.tuple ds) ↔ ds.length < 100000 ∧ ∀ d ∈ ds, pl n d := Iff.rfl
theorem pl_up : ∀ {n : Nat} {d : PyData}, pl n d → pl (n + 1) d
  | _, .none, _ => trivial
  | _, .bool _, _ => trivial
  | _, .int _, _ => trivial
  | 0, .str _, h => h
  | _ + 1, .str _, h => h
  | 0, .list _, h => h.elim
  | 0, .tuple _, h => h.elim
  | 0, .dict _, h => h.elim
  | _ + 1, .dict _, h => h.elim
  | n + 1, .list ds, h => ⟨h.1, fun d m => pl_up (h.2 d m)⟩
  | n + 1, .tuple ds, h => ⟨h.1, fun d m => pl_up (h.2 d m)⟩
theorem pl_okS : ∀ {n : Nat} {d : PyData}, pl n d → okS n d
  | 0, .none, _ => trivial
  | 0, .bool _, _ => trivial
  | 0, .int _, _ => trivial
  | 0, .str _, _ => trivial
  | _ + 1, .none, _ => trivial
  | _ + 1, .bool _, _ => trivial
  | _ + 1, .int _, _ => trivial
  | _ + 1, .str _, _ => trivial
  | 0, .list _, h => h.elim
  | 0, .tuple _, h => h.elim
  | 0, .dict _, h => h.elim
  | _ + 1, .dict _, h => h.elim
  | n + 1, .list ds, h => ⟨h.1, fun d m => pl_okS (h.2 d m)⟩
  | n + 1, .tuple ds, h => ⟨h.1, fun d m => pl_okS (h.2 d m)⟩
theorem noDictA_of {ds : List PyData} (h : ∀ d ∈ ds, noDict d = true) : noDictA ds = true := by
  induction ds with
  | nil => rfl
  | cons d r ih => unfold noDictA; rw [h d (List.mem_cons_self ..), ih fun d m => h d (List.mem_cons_of_mem _ m)]; rfl
theorem pl_noDict : ∀ {n : Nat} {d : PyData}, pl n d → noDict d = true
  | _, .none, _ => rfl
  | _, .bool _, _ => rfl
  | _, .int _, _ => rfl
  | _, .str _, _ => rfl
  | 0, .list _, h => h.elim
  | 0, .tuple _, h => h.elim
  | 0, .dict _, h => h.elim
  | _ + 1, .dict _, h => h.elim
  | n + 1, .list ds, h => by unfold noDict; exact noDictA_of fun d m => pl_noDict (h.2 d m)
  | n + 1, .tuple ds, h => by unfold noDict; exact noDictA_of fun d m => pl_noDict (h.2 d m)
theorem lay_of {ds : List PyData} {n : Nat} (h : ∀ d ∈ ds, d.canLay0 = true ∧ d.depth ≤ n) : PyData.canLayAll0 ds = true ∧ PyData.depthAll ds ≤ n := by
  induction ds with
  | nil => exact ⟨rfl, Nat.zero_le _⟩
  | cons d r ih =>
    have h1 := h d (List.mem_cons_self ..)
    have h2 := ih fun d m => h d (List.mem_cons_of_mem _ m)
    refine ⟨?_, ?_⟩
    · simp [PyData.canLayAll0, h1.1, h2.1]
    · simp only [PyData.depthAll]; exact Nat.max_le.mpr ⟨h1.2, h2.2⟩
theorem pl_lay : ∀ {n : Nat} {d : PyData}, pl n d → d.canLay0 = true ∧ d.depth ≤ n
  | _, .none, _ => ⟨rfl, Nat.zero_le _⟩
  | _, .bool _, _ => ⟨rfl, Nat.zero_le _⟩
  | _, .int _, _ => ⟨rfl, Nat.zero_le _⟩
  | 0, .str _, h => ⟨h, Nat.zero_le _⟩
  | _ + 1, .str _, h => ⟨h, Nat.zero_le _⟩
  | 0, .list _, h => h.elim
  | 0, .tuple _, h => h.elim
  | 0, .dict _, h => h.elim
  | _ + 1, .dict _, h => h.elim
  | n + 1, .list ds, h => by
    have := lay_of fun d m => pl_lay (h.2 d m)
    exact ⟨by simp only [PyData.canLay0]; exact this.1, by simp only [PyData.depth]; omega⟩
  | n + 1, .tuple ds, h => by
    have := lay_of fun d m => pl_lay (h.2 d m)
    exact ⟨by simp only [PyData.canLay0]; exact this.1, by simp only [PyData.depth]; omega⟩
theorem pl_shaped {n : Nat} {d : PyData} (h : pl n d) (hn : n ≤ 64 := by decide) : SeqAt.shaped d = true := by
  have := pl_lay h
  unfold SeqAt.shaped
  rw [this.1, decide_eq_true (show d.depth ≤ 64 by omega)]; rfl
theorem pl_int (n : Nat) (i : Int) : pl n (.int i) := by cases n <;> trivial
theorem pl_ints (n : Nat) {ns : List Int} (h : ns.length < 100000) : pl (n + 1) (.tuple (ns.map .int)) := ⟨by rw [List.length_map]; exact h, fun d m => by obtain ⟨i, _, rfl⟩ := List.mem_map.mp m; exact pl_int _ _⟩
theorem pl_intsL (n : Nat) {ns : List Int} (h : ns.length < 100000) : pl (n + 1) (.list (ns.map .int)) := pl_ints n h
theorem oddTab_pl {d : PyData} (h : d ∈ oddTab) : pl 1 d := by
  simp only [oddTab, List.mem_cons, List.not_mem_nil, or_false] at h
  rcases h with rfl | rfl | rfl | rfl | rfl | rfl | rfl | rfl | rfl | rfl | rfl
  · trivial
  · trivial
  · trivial
  · exact (by decide +kernel : PyData.canLay0 (.str "") = true)
  · exact (by decide +kernel : PyData.canLay0 (.str "1") = true)
  · exact ⟨by decide, fun _ m => by cases m⟩
  · exact ⟨by decide, fun _ m => by cases m⟩
  · exact pl_ints 0 (ns := [1]) (by decide)
  · exact pl_ints 0 (ns := [1, 1]) (by decide)
  · exact pl_ints 0 (ns := [1, 1]) (by decide)
  · exact ⟨by decide, fun d m => by
      simp only [List.mem_cons, List.not_mem_nil, or_false] at m
      rcases m with rfl | rfl <;> trivial⟩
section
variable {X : Cx} {F : Fx} {W : WX} {P : Out → Prop} {Γ Γ1 Γ2 : List Sl} {a b c e : Expr} {es : List Expr} {pos p p2 : Pos} {k : Nat} {rest : List Stmt}
theorem dt_same {n : Nat} {d d' : PyData} (C : Cal X.prog X.w X.K X.mg X.base k "_law_same" ["a", "b"] (spP X.K (R_same n))) (hr : Room k X.A) (ha : PE X a (tD X.K F Γ (.dat d) Γ1)) (hb : PE X b (tD X.K F Γ1 (.dat d') Γ2)) (h : d = d') (h1 : pl n d)
    (hg : Gl X "_law_same" := by rfl) (he : starEach [a, b] X.env = (false, eval a X.env) :: starEach [b] X.env := by rfl) (he2 : starEach [b] X.env = (false, eval b X.env) :: starEach [] X.env := by rfl) (hpl : (backTo pos (starEach [b] X.env)).any (·.1) = false := by rfl) :
    PT X (.Call (.Name "_law_same" p) [a, b] [] pos) (tDT X.K F Γ true Γ2) := by
  subst h
  have := dt_b (dc (p := p) C hr (da_cons ha (da_cons hb da_nil he2) he) ⟨d, d, rfl, pl_okS h1, pl_okS h1, rfl⟩ rfl hg (by decide) he hpl) (by intro _; rfl)
  rw [sameD_refl d (pl_noDict h1)] at this
  exact this
theorem dt_nsame {n : Nat} {d d' : PyData} (C : Cal X.prog X.w X.K X.mg X.base k "_law_same" ["a", "b"] (spP X.K (R_same n))) (hr : Room k X.A) (ha : PE X a (tD X.K F Γ (.dat d) Γ1)) (hb : PE X b (tD X.K F Γ1 (.dat d') Γ2)) (h : d = d') (h1 : pl n d)
    (hg : Gl X "_law_same" := by rfl) (he : starEach [a, b] X.env = (false, eval a X.env) :: starEach [b] X.env := by rfl) (he2 : starEach [b] X.env = (false, eval b X.env) :: starEach [] X.env := by rfl) (hpl : (backTo pos (starEach [b] X.env)).any (·.1) = false := by rfl) :
    PT X (.UnaryOp .Not (.Call (.Name "_law_same" p) [a, b] [] pos) p2) (tDT X.K F Γ false Γ2) := dt_not (k := true) (dt_same C hr ha hb h h1 hg he he2 hpl)
end
def drawN (f : Nat → Bag → PyData × Bag) : Nat → Nat → Bag → List PyData × Bag
  | _, 0, b => ([], b)
  | j, m + 1, b => ((f j b).1 :: (drawN f (j + 1) m (f j b).2).1, (drawN f (j + 1) m (f j b).2).2)
theorem drawN_len (f : Nat → Bag → PyData × Bag) : ∀ (m j : Nat) (b : Bag), (drawN f j m b).1.length = m
  | 0, _, _ => rfl
  | m + 1, j, b => congrArg (· + 1) (drawN_len f m (j + 1) _)
theorem drawN_mem {f : Nat → Bag → PyData × Bag} {q : PyData → Prop} (h : ∀ j b, q (f j b).1) : ∀ (m j : Nat) (b : Bag), ∀ d ∈ (drawN f j m b).1, q d
  | 0, _, _, _, hd => by cases hd
  | m + 1, j, b, d, hd => by
    rcases List.mem_cons.mp hd with rfl | hd
    · exact h j b
    · exact drawN_mem h m (j + 1) _ d hd
theorem drawN_ok {f : Nat → Bag → PyData × Bag} {c : Int} (hc : 0 ≤ c) (h : ∀ j n b, BagOk n b → BagOk (n + c) (f j b).2) : ∀ (m j : Nat) (b : Bag) (n : Int), BagOk n b → BagOk (n + c * m) (drawN f j m b).2
  | 0, _, _, n, ok => by simpa [drawN] using ok
  | m + 1, j, b, n, ok => by
    have := drawN_ok hc h m (j + 1) _ _ (h j n b ok)
    refine this.mono ?_
    rw [show ((m + 1 : Nat) : Int) = (m : Int) + 1 by omega, Int.mul_add, Int.mul_one]
    omega
theorem drawN_ints {f : Nat → Bag → PyData × Bag} {lo hi : Int} (h : ∀ j b, ∃ i : Int, (f j b).1 = .int i ∧ lo ≤ i ∧ i ≤ hi) (m : Nat) (b : Bag) : ∃ ns : List Int, (drawN f 0 m b).1 = ns.map .int ∧ ns.length = m ∧ ∀ n ∈ ns, lo ≤ n ∧ n ≤ hi := by
  have h1 := drawN_mem (q := fun d => ∃ i : Int, d = .int i ∧ lo ≤ i ∧ i ≤ hi) h m 0 b
  have h2 := drawN_len f m 0 b
  revert h1 h2
  generalize (drawN f 0 m b).1 = l
  intro h1 h2
  induction l generalizing m with
  | nil => exact ⟨[], rfl, h2, fun _ z => by cases z⟩
  | cons d r ih =>
    cases m with
    | zero => cases h2
    | succ m =>
      obtain ⟨ns, e1, e2, e3⟩ := ih m (fun d hd => h1 d (List.mem_cons_of_mem _ hd)) (Nat.succ.inj h2)
      obtain ⟨i, rfl, hi⟩ := h1 d (List.mem_cons_self ..)
      refine ⟨i :: ns, by rw [e1]; rfl, by rw [List.length_cons, e2], fun n hn => ?_⟩
      rcases List.mem_cons.mp hn with rfl | hn
      · exact hi
      · exact e3 n hn
def ofI (g : Bag → Int × Bag) : Nat → Bag → PyData × Bag := fun _ b => (.int (g b).1, (g b).2)
section
variable {X : Cx} {F : Fx} {Γ Γ1 Γ2 : List Sl} {a b e elt iter tg : Expr} {pos p p2 : Pos} {scope : Scope}
theorem lr_draw {g : TG} {y : Str} {ik : Nat} {m : Nat} {lo : Int} (f : Nat → Bag → PyData × Bag) (Γb : Bag → List Sl) (B : Bag) {n c : Int} (ok0 : BagOk n B) (hc : 0 ≤ c) (hf : ∀ j n b, BagOk n b → BagOk (n + c) (f j b).2) (hi : PI X tg iter (tI X.K F Γ (rng lo m) Γ1)) (T : Tgt X.K F g [ik] (aName F ik)) (hN : X.N.Nodup) (ok : BlkOk X.N X.env.scope scope [(y, ik)])
    (hg : ∀ (s : Shared) (H : Hp) (C : Addr) (cl : List (Str × Addr)) (fp : List Addr), PG (X.blk s H scope (compEnvC scope cl C X.env) fp) tg g) (hz : m < 100000)
    (turn : ∀ (j : Nat) (b : Bag), j < m → BagOk (n + c * m) b → ∀ (s : Shared) (H : Hp) (C : Addr) (cl : List (Str × Addr)) (fp : List Addr), PE (X.blk s H scope (compEnvC scope cl C X.env) fp) elt (tD X.K F (st (Γb b) ik (.dat (.int (lo + (j : Int))))) (.dat (f j b).1) (st (Γb (f j b).2) ik (.dat (.int (lo + (j : Int)))))))
    (h1 : wpG Γ1 [ik] = Γb B := by rfl) (hw : ∀ b d, wpG (st (Γb b) ik (.dat d)) [ik] = Γb b := by intro _ _; rfl) (hb : ∀ b, inb (Γb b) ik = true := by intro _; rfl) (hpf : pf F ik = true := by rfl) :
    LcR X F Γ elt tg iter [] scope [(y, ik)] (drawN f 0 m B).1 (Γb (drawN f 0 m B).2) := by
  refine lr_lc (own := [(y, ik)]) (A := aName F ik) (fun j acc Γ => j ≤ m ∧ ∃ b, BagOk (n + c * j) b ∧ Γ = Γb b ∧ acc ++ (drawN f j (m - j) b).1 = (drawN f 0 m B).1 ∧ (drawN f j (m - j) b).2 = (drawN f 0 m B).2) hi T hN ok hg ⟨Nat.zero_le _, B, ok0.mono (by simp), h1, rfl, rfl⟩ (by rw [rng_len]; exact hz) (fun j d acc Γ hd ⟨hj, b, okb, e1, e2, e3⟩ => ?_) (fun acc Γ ⟨hj, b, okb, e1, e2, e3⟩ => ?_) (by simp [hpf])
  · subst e1
    have hlt : j < m := by have := (List.getElem?_eq_some_iff.mp hd).1; rwa [rng_len] at this
    have ed : d = .int (lo + (j : Int)) := by
      rw [rng_get lo hlt] at hd
      exact (Option.some.inj hd).symm
    subst ed
    have hle : n + c * (j : Int) ≤ n + c * (m : Int) := by
      have := Int.mul_le_mul_of_nonneg_left (show (j : Int) ≤ (m : Int) by omega) hc
      omega
    refine ⟨_, true, ⟨rfl, hb b, hpf⟩, fun _ _ _ _ _ => pts_no, fun h => (by cases h), fun _ => ⟨_, _, turn j b hlt (okb.mono hle), hlt, (f j b).2, ?_, hw _ _, ?_, ?_⟩⟩
    · refine (hf j _ b okb).mono ?_
      rw [show ((j + 1 : Nat) : Int) = (j : Int) + 1 by omega, Int.mul_add, Int.mul_one]
      omega
    · rw [show m - j = (m - (j + 1)) + 1 by omega] at e2
      rw [List.append_assoc]
      exact e2
    · rw [show m - j = (m - (j + 1)) + 1 by omega] at e3
      exact e3
  · rw [rng_len] at e2 e3
    rw [Nat.sub_self] at e2 e3
    subst e1
    refine ⟨?_, ?_⟩
    · rw [← e2]
      show acc = acc ++ []
      rw [List.append_nil]
    · rw [← e3]
      rfl
end
theorem getD_mem {ns : List Int} {i : Nat} {q : Int → Prop} (h : ∀ n ∈ ns, q n) (h0 : q 0) : q (ns.getD i 0) := by
  rw [List.getD_eq_getElem?_getD]
  cases z : ns[i]? with
  | none => exact h0
  | some n => exact h n (List.mem_of_getElem? z)
end AM
namespace AM
open PySem PySem.Spec PyProof.Rows L2
theorem cutD_le (ds : List PyData) (lo hi : Option Int) : (cutD ds lo hi).length ≤ ds.length := by
  unfold cutD; rw [List.length_take, List.length_drop]; omega
theorem cutD_mem {ds : List PyData} {lo hi : Option Int} {d : PyData} (h : d ∈ cutD ds lo hi) : d ∈ ds := List.mem_of_mem_drop (List.mem_of_mem_take h)
theorem ixN_last {α : Type} (x : α) (r : List α) : ixN (x :: r).length (-1) = some r.length := by
  unfold ixN
  rw [List.length_cons]
  simp
  omega
theorem ixN_pos {n : Nat} {i : Int} (h : 0 ≤ i) (h2 : i < (n : Int)) : ixN n i = some i.toNat := by
  unfold ixN
  rw [if_pos h, if_pos h2]
theorem bags_call {X : Cx} {k : Nat} {n : Int} {p p0 : Pos} {kk : Nat} {pos pn : Pos} (C : Cal X.prog X.w X.K X.mg X.base k "_law_bags" ["script", "most"] (spBags X.K)) (hr : Room k X.A) (h0 : X.N[0]? = some ("script" : Str) := by rfl) (hx : Vis X.env.scope "script" := by first | exact Or.inl rfl | exact Or.inr rfl) (hg : Gl X "_law_bags" := by rfl)
    (he : starEach [.Name "script" p0, .Constant (.int n) kk pn] X.env = (false, eval (.Name "script" p0) X.env) :: starEach [.Constant (.int n) kk pn] X.env := by rfl) (he2 : starEach [.Constant (.int n) kk pn] X.env = (false, eval (.Constant (.int n) kk pn) X.env) :: starEach [] X.env := by rfl) (hpl : (backTo pos (starEach [.Constant (.int n) kk pn] X.env)).any (·.1) = false := by rfl) :
    PE X (.Call (.Name "_law_bags" p) [.Name "script" p0, .Constant (.int n) kk pn] [] pos) (tBags X.K) := by
  obtain ⟨f, fd, h1, h2, h3, h4⟩ := C.ex
  refine pe_imp (pe_callS (E := WE fun _ _ _ _ => False) h1 hr hg h2 h3 h4 (fun σ => passAt takes0 σ) (pa_cons (pv 0 h0 hx) (pa_cons pe_int pa_nil he2) he) (by decide) he hpl) fun σ H Q ⟨⟨a, ns, e, hS, hl⟩, q⟩ => ?_
  exact ⟨.ref a, e, a, ns, n, rfl, hS, hl, q⟩
end AM
namespace AM
open PySem PySem.Spec PyProof.Rows L2
theorem law_mk {P : Program} {w : World} {K : PySem.W.Frag} {mg : Str → Option Value} {base : Heap} {k : Nat} {st : Stmt} {f : Addr} {fd : FuncData} {N : List Str} (Fl : FunG K "law" "law" st f fd) (S : FnScope N ["script"] (defScope st))
    (body : ∀ (cdv : Value) (A : Around) (outer : List PySem.Env) (s : Shared) (H : Hp) (E : XK), Room k (A.deeper (envOfC "law" (defScope st) s.heap.objs.size f cdv)) →
      PSs (cxOf (L2.CX P w) P w K mg base N "law" (defScope st) f cdv A outer s H E) (defBody st) (fun D σ H => σ.length = N.length ∧ (∃ (a : Addr) (ns : List Int), σ[0]? = some (some (.ref a)) ∧ SqL K H a (ns.map V.int) ∧ ns.length ≤ 63) ∧ LamX.Tabs [] H ∧ ∀ H', D.rt (.bl true) H'))
    (hN : ∀ v : V, (L2.start N [v]).length = N.length ∧ (L2.start N [v])[0]? = some (some v) := by intro _; exact ⟨rfl, rfl⟩) : FnOk P w K mg base (L2.CX P w) (k + 1) f fd ["script"] (spLaw K) := by
  refine Fl.okX S (fun vs H Q E h => ?_) (fun cdv A outer s H vs Q E hr h => ?_)
  · obtain ⟨a, ns, rfl, _⟩ := h; rfl
  · obtain ⟨a, ns, rfl, hS, hlen, tb, q⟩ := h
    exact ⟨_, body cdv A outer s H E hr, (hN _).1, ⟨a, ns, (hN _).2, hS, hlen⟩, tb, q⟩
end AM

set_option Elab.async false
set_option linter.all false
set_option maxRecDepth 100000
set_option maxHeartbeats 2000000
namespace AM
open PySem PySem.Spec PyProof.Rows L2
structure Xcl (K : PySem.W.Frag) (mg : Str → Option Value) (x : Str) (C : Addr) : Prop where
  gC : mg x = some (.ref C)
  ke : PySem.W.keepIn K (.ref C) = true
  q : PySem.W.excIn K C [.type "ValueError", .type "Exception", .type "BaseException", .type "object"] "ValueError.__new__" = true
  sb : PySem.W.subIn K (.ref C) (.type "BaseException") = some true
  ty : PySem.W.typeIn K (.ref C) = some (.type "type")
def tX (K : PySem.W.Frag) (F : Fx) (W : WX) (Γ : List Sl) (c : Addr) (Γ' : List Sl) : TE := fun σ H _ => ∃ G, En K F G σ H Γ ∧ ∀ H' G', Step σ Γ Γ' G H G' H' → En K F G' σ H' Γ' → W (.ref c) none σ H'
section
variable {X : Cx} {F : Fx} {W : WX} {P : Out → Prop} {Γ Γ1 Γ2 : List Sl} {a b c e : Expr} {es : List Expr} {pos pos' p p2 : Pos} {k : Nat} {rest : List Stmt} {C : Addr} {x : Str} {ps : List Str} {rs : List Rv} {ds : List PyData}
theorem ds_raise {m : Str} {j : Nat} (XC : Xcl X.K X.mg x C) (tk : Takes X W) (hP : P (.ex C)) (hg : Gl X x := by rfl) (hc : X.calm = true := by rfl) (hdb : (x == ("__debug__" : Str)) = false := by decide) : PSs X (.Raise (some (.Call (.Name x p) [.Constant (.str m) j p2] [] pos)) none pos' :: rest) (tS X.K F W Γ P) :=
  ds_seq (ps_imp (ps_raise hc tk (pmk_own PySem.F.excBase_ValueError XC.q XC.gC XC.ke (raises_own XC.sb XC.ty) hg hdb)) fun D σ H ⟨G, E, _, _, _, _, q⟩ => q C Γ σ H G hP Same.r E)
theorem de_callX {R : List PyData → Res → Prop} (Cf : Cal X.prog X.w X.K X.mg X.base k x ps (spP X.K R)) (hr : Room k X.A) (tk : Takes X W) (ha : PA X (e :: es) (tDA X.K F Γ rs Γ1)) (hR : R ds (.ex C)) (hd : datS rs = some ds := by rfl)
    (hg : Gl X x := by rfl) (hdb : (x == ("__debug__" : Str)) = false := by decide) (he : starEach (e :: es) X.env = (false, eval e X.env) :: starEach es X.env := by rfl) (hpl : (backTo pos (starEach es X.env)).any (·.1) = false := by rfl) :
    PE X (.Call (.Name x p) (e :: es) [] pos) (tX X.K F W Γ C Γ1) := by
  obtain ⟨f, fd, h1, h2, h3, h4⟩ := Cf.ex
  exact pe_imp (pe_callS (E := WE W) h1 hr hg h2 h3 h4 (fun σ => passAt tk σ) ha hdb he hpl) fun σ H Q ⟨G, E, q⟩ => ⟨G, E, fun vs H1 G1 s1 E1 v1 =>
    ⟨G1, ds, .ex C, E1.le, E1.nt, datS_dp v1 hd, hR, fun H' sm => q H' G1 (s1.trans (Grown.step ⟨sm, Same.r, E1.le.trans sm, fun a o h => .inl ⟨o, h⟩, E1.nt⟩)) (E1.grown ⟨sm, Same.r, E1.le.trans sm, fun a o h => .inl ⟨o, h⟩, E1.nt⟩)⟩⟩
theorem ds_exprX (he : PE X e (tX X.K F W Γ C Γ1)) (hP : P (.ex C)) (hs : swapsWith e none pos.line X.env = pure false := by rfl) : PSs X (.Expr e pos :: rest) (tS X.K F W Γ P) :=
  ds_seq (ps_imp (ps_expr he hs) fun D σ H ⟨G, E, _, _, _, _, q⟩ => ⟨G, E, fun H' G' s E' => q C Γ1 σ H' G' hP s.g E'⟩)
theorem ds_retX (he : PE X e (tX X.K F W Γ C Γ1)) (hP : P (.ex C)) : PSs X (.Return (some e) pos :: rest) (tS X.K F W Γ P) :=
  ds_seq (ps_imp (ps_ret he) fun D σ H ⟨G, E, _, _, _, _, q⟩ => ⟨G, E, fun H' G' s E' => q C Γ1 σ H' G' hP s.g E'⟩)
theorem ds_setX (i : Nat) (he : PE X e (tX X.K F W Γ C Γ1)) (hP : P (.ex C)) (hN : X.N.Nodup) (hi : X.N[i]? = some x := by rfl) (hx : Loc X.env.scope x := by first | exact Or.inl rfl | exact Or.inr rfl)
    (hs : swapsWith e (some (.Name x pos')) pos.line X.env = pure false := by rfl) (hf : X.fn x = true ∨ X.env.scope.names.lookup x = some .local := by first | exact .inl rfl | exact .inr rfl | assumption) : PSs X (.Assign [.Name x pos'] e pos :: rest) (tS X.K F W Γ P) :=
  ds_seq (ps_imp (ps_set hN hi hx he hs hf) fun D σ H ⟨G, E, _, _, _, _, q⟩ => ⟨G, E, fun H' G' s E' => q C Γ1 σ H' G' hP s.g E'⟩)
end
def many (K : PySem.W.Frag) (k : List V → Prop) : List (Value × List V) → Value → Prop
  | [], _ => False
  | (c, its) :: r, cls => ∃ b, PySem.W.exmOne K cls c = some b ∧ (b = true → k its) ∧ (b = false → many K k r cls)
theorem many_imp {K : PySem.W.Frag} {k k' : List V → Prop} (h : ∀ its, k its → k' its) : ∀ {l : List (Value × List V)} {cls : Value}, many K k l cls → many K k' l cls
  | [], _, z => z.elim
  | (c, its) :: r, cls, ⟨b, e, h1, h2⟩ => ⟨b, e, fun hb => h _ (h1 hb), fun hb => many_imp h (h2 hb)⟩
def tsAsk (its : List V) : Addr → Value → Option Addr → TS := fun _ _ _ D σ H => ∀ p, H p = none → D.nx (σ.set 1 (some (.ref p))) (upd H p (.tup its))
theorem wMany_of {K : PySem.W.Frag} {W : WX} {D : Ends} {cls : Value} {d : Option Addr} {σ : L2.St} {H : Hp} : ∀ {l : List (Value × List V)}, many K (fun its => ∀ p, H p = none → D.nx (σ.set 1 (some (.ref p))) (upd H p (.tup its))) l cls → wMany K W D (l.map fun q => (q.1, tsAsk q.2)) cls d σ H
  | [], h => h.elim
  | (c, its) :: r, ⟨b, e, h1, h2⟩ => ⟨b, e, fun hb _ _ => h1 hb, fun hb => wMany_of (h2 hb)⟩
def TTask (K : PySem.W.Frag) (l : List (Value × List V)) : (XK → Hp → VK → Prop) → Hp → VK → Prop := fun tl H Q => ∀ p0, H p0 = none → ∀ Q' : VK, (∀ v H1, (∀ p, H1 p = none → Q (.ref p) (upd H1 p (.tup [.str "told", v]))) → Q' v H1) →
  tl (fun cls _ H1 => many K (fun its => ∀ p, H1 p = none → Q (.ref p) (upd H1 p (.tup its))) l cls) (upd H p0 (.tup [.str "none"])) Q'
theorem hd_cons {X : Cx} {x m a : Str} {c : Value} {np p1 p2 p3 p4 p5 pos' : Pos} {j1 j2 : Nat} {k} {hds : List ExceptHandler} {l : List (Value × List V)} (hc : Names X x c) (hN : X.N.Nodup) (r : HdsOk X hds (l.map fun q => (q.1, tsAsk q.2)))
    (hi : X.N[1]? = some ("found" : Str) := by rfl) (hx : X.env.scope.names.lookup ("found" : Str) = some .local := by rfl) :
    HdsOk X (.ExceptHandler (some (.Name x np)) none [.Assign [.Name "found" p1] (.Tuple [.Constant (.str a) j1 p2, .Constant (.str m) j2 p3] k p4) p5] pos' :: hds) (((c, [.str a, .str m]) :: l).map fun q => (q.1, tsAsk q.2)) := by
  refine .cons hc (fun a' oe cls d pn _ _ => pss_imp (pss_one (ps_set (X := X.suite a' ((a', oe) :: pn)) (i := 1) hN hi (.inl hx) (pe_tup (pa_cons pe_str (pa_cons pe_str pa_nil))) rfl (.inr hx))) fun D σ H h => ?_) r
  exact ⟨by show 2 ≤ sizeLine; decide, fun p hp => h p hp⟩
theorem takes_len {X : Cx} {W : WX} (tk : Takes X W) : Takes X (fun cls d σ H => σ.length = X.N.length → W cls d σ H) := fun u s' ⟨a, B, sI, pins, σ, H, cls, d, e, I, nb, up, sky, na, os, ag, w⟩ =>
  tk u s' ⟨a, B, sI, pins, σ, H, cls, d, e, I, nb, up, sky, na, os, ag, w I.len⟩
theorem ask_gives {X : Cx} {q : Str} {sg : Scope} {g : Addr} {cdg : Value} {hds : List ExceptHandler} {h0 : ExceptHandler} {l : List (Value × List V)} {j1 j2 : Nat} {k1 k2} {p1 p2 p3 p4 p5 p6 p7 p8 p9 p10 p11 p12 p13 : Pos} (hx : sg.names.lookup ("found" : Str) = some .local)
    (hh : ∀ (s : Shared) (H : Hp), HdsOk (cxOf C8.CX0 X.prog X.w X.K X.mg X.base ["deed", "found"] "_law_ask" sg g cdg X.A X.stack s H C8.E0).nox (h0 :: hds) (l.map fun q => (q.1, tsAsk q.2))) :
    LamX.GivesTo X ["deed", "found"] "_law_ask" sg g cdg [.Assign [.Name "found" p1] (.Tuple [.Constant (.str "none") j1 p2] k1 p3) p4, .Try [.Assign [.Name "found" p5] (.Tuple [.Constant (.str "told") j2 p6, .Call (.Name "deed" p7) [] [] p8] k2 p9) p10] (h0 :: hds) [] [] p11, .Return (some (.Name "found" p12)) p13] "deed" q (TTask X.K l) := by
  intro f c' s H Q tl act hc h
  have hN : (["deed", "found"] : List Str).Nodup := by decide
  refine ⟨_, pss_cons (ps_set (i := 1) hN rfl (.inl hx) (pe_tup (pa_cons pe_str pa_nil)) rfl (.inr hx)) (pss_cons (ps_try_many (X := (cxOf C8.CX0 X.prog X.w X.K X.mg X.base ["deed", "found"] "_law_ask" sg g cdg X.A X.stack s H C8.E0).nox) (l := l.map fun q => (q.1, tsAsk q.2))
      (tb := fun W D σ H => ∃ Ech : XK, (∀ cls d σ' H', σ'.length = 2 → Ech cls d H' → W cls d σ' H') ∧ σ[0]? = some (some (.ref f)) ∧ H c' = some (LamX.CodeO c' q) ∧ ∀ Q' : VK, (∀ v H1, (∀ p, H1 p = none → D.nx (σ.set 1 (some (.ref p))) (upd H1 p (.tup [.str "told", v]))) → Q' v H1) → tl Ech H Q')
      rfl rfl takes_none5 (fun W pn xe tk _ => ?_) (hh s H)) (pss_one (ps_ret (pv 1 rfl (.inl hx))))), ?_⟩
  · refine ⟨fun pins s' σ H' D I h' => ?_⟩
    obtain ⟨Ech, hW, h1, h2, h3⟩ := h'
    have hp := act _ pn xe Ech p7 p8 (takes_len tk) (fun cls d σ' H' e hl => hW cls d σ' H' hl e)
    have hq := pss_one (ps_set (pos := p10) (pos' := p5) (X := (cxOf C8.CX0 X.prog X.w X.K X.mg X.base ["deed", "found"] "_law_ask" sg g cdg X.A X.stack s H C8.E0).tr pn xe) (i := 1) hN rfl (.inl hx) (pe_tup (x1 := k2) (pos := p9) (pa_cons (pe_str (x := ("told" : Str)) (pos := p6) (j := j2)) (pa_cons hp pa_nil))) rfl (.inr hx))
    exact hq.run pins s' σ H' D I ⟨h1, h2, h3 _ fun v H1 z => ⟨by show 2 ≤ sizeLine; decide, fun p hp => z p hp⟩⟩
  · refine ⟨by show 1 ≤ sizeLine; decide, fun p0 hp0 => ?_⟩
    have n0 : c' ≠ p0 := ne_of_none hc hp0
    refine ⟨fun cls _ H1 => many X.K (fun its => ∀ p, H1 p = none → Q (.ref p) (upd H1 p (.tup its))) l cls, fun cls d σ' H' hl' hm => wMany_of (many_imp (fun its hk p hp => ⟨.ref p, List.getElem?_set_self (by rw [hl']; decide), hk p hp⟩) hm), rfl, by rw [upd_ne n0]; exact hc, fun Q' hQ => ?_⟩
    exact h p0 hp0 Q' fun v H1 z => hQ v H1 fun p hp => ⟨.ref p, rfl, z p hp⟩
section
variable {K : PySem.W.Frag} {F : Fx} {σ : L2.St} {Γ Γ1 Γ2 : List Sl} {G H H1 : Hp}
theorem En.extN (E : En K F G σ H Γ) (n0 : NT F.H0) (eN : LamX.ExtN H H1) (t : LamX.Tabs F.T H1) : En K F G σ H1 Γ where
  le := fun a o h => eN a o (E.le a o h) (E.nt a o h)
  g0 := E.g0
  fr := E.fr
  base := fun a o n h => eN a o (E.base a o n h) (n0 a o h)
  mu := fun a m => by
    rcases m with ⟨i, m⟩ | ⟨q, m⟩
    · obtain ⟨e, xs, l⟩ := E.pin _ m
      obtain ⟨_, vs, h⟩ := E.own ⟨i, xs, l, e⟩
      exact ⟨_, eN a _ h noTb_lst⟩
    · obtain ⟨ps, h, _⟩ := t _ m
      exact ⟨_, h⟩
  sl := fun i => by
    have s := E.sl i
    cases q : lk Γ i with
    | no => trivial
    | dat d => rw [q] at s; exact s
    | own xs =>
      rw [q] at s
      obtain ⟨p, vs, e, gp, hp, ha, hm⟩ := s
      exact ⟨p, vs, e, gp, eN _ _ hp noTb_lst, ha, hm⟩
  nd := E.nd
  len := E.len
  pin := E.pin
  tab := t
  nt := E.nt
theorem Step.extN (eN : LamX.ExtN H H1) : Step σ Γ Γ G H G H1 := ⟨fun _ _ h => h, fun a o h => .inl ⟨o, h⟩, fun a o h _ t => eN a o h t, fun _ h => h, fun a vs h => ⟨vs, eN a _ h noTb_lst⟩⟩
end
structure AskC (X : Cx) (T : List (Addr × Str)) (l : List (Value × List V)) : Prop where
  ex : ∃ (g c Pt : Addr) (pg : Arguments) (bg : List Stmt) (sg : Scope) (dV kV doc pm cdv ct oc : Value) (an od : Option Addr) (osl : Array (Option Value)), X.mg "_law_ask" = some (.ref g) ∧ PySem.W.keepIn X.K (.ref g) = true ∧
    X.K.lookup g = some ⟨oc, od, .func (PySem.W.fnOf "_law_ask" "_law_ask" pg bg sg dV kV doc pm an cdv ct), osl⟩ ∧ PySem.W.codeIn X.K cdv "_law_ask" = true ∧ L2.Binds X.K (PySem.W.fnOf "_law_ask" "_law_ask" pg bg sg dV kV doc pm an cdv ct) ["deed"] [] ∧
    FnScope ["deed", "found"] ["deed"] sg ∧ Vis sg "deed" ∧ LamX.GivesTo X ["deed", "found"] "_law_ask" sg g cdv bg "deed" (X.env.qual ++ "<lambda>") (TTask X.K l) ∧ LamX.TabB X.base X.mg c Pt ∧ X.env.code = .ref c ∧ (Pt, X.env.qual ++ "<lambda>") ∈ T ∧ ∀ p ∈ T, p.1 = Pt → p.2 = X.env.qual ++ "<lambda>"
def lawQ : Str := ("law" : Str) ++ (".<locals>." : Str)
def lawT (Pt : Addr) : List (Addr × Str) := [(Pt, lawQ ++ ("<lambda>" : Str))]
theorem ask_mk {X : Cx} {st : Stmt} {T : List (Addr × Str)} {l : List (Value × List V)} {c Pt : Addr} (D : Def X.K X.mg "_law_ask" st ["deed"]) (S : FnScope ["deed", "found"] ["deed"] (defScope st)) (hv : Vis (defScope st) "deed")
    (hG : ∀ (g : Addr) (cdv : Value), LamX.GivesTo X ["deed", "found"] "_law_ask" (defScope st) g cdv (defBody st) "deed" (X.env.qual ++ "<lambda>") (TTask X.K l)) (TB : LamX.TabB X.base X.mg c Pt) (hcode : X.env.code = .ref c) (q0 : Str) (hq : X.env.qual = q0) (hT : T = [(Pt, q0 ++ "<lambda>")]) : AskC X T l := by
  have hm : (Pt, X.env.qual ++ "<lambda>") ∈ T := by rw [hT, hq]; exact List.mem_cons_self
  have hu : ∀ p ∈ T, p.1 = Pt → p.2 = X.env.qual ++ "<lambda>" := fun p hp _ => by rw [hT, List.mem_singleton] at hp; rw [hp, hq]
  obtain ⟨f, fd, F, h1, h2⟩ := D.ex
  obtain ⟨oc, od, dV, kV, doc, pm, an, cdv, ct, osl, rfl, lk, hcd⟩ := F.ex
  exact ⟨f, c, Pt, _, _, _, dV, kV, doc, pm, cdv, ct, oc, an, od, osl, h1, F.kp, lk, hcd, h2, S, hv, hG f cdv, TB, hcode, hm, hu⟩
theorem ds_ask {X : Cx} {F : Fx} {W : WX} {P : Out → Prop} {Γ : List Sl} {rest : List Stmt} {l : List (Value × List V)} (a : AskC X F.T l) (h : AskC X F.T l → PSs X rest (tS X.K F W Γ P)) : PSs X rest (tS X.K F W Γ P) := h a
section
variable {X : Cx} {F : Fx} {Γ Γ1 : List Sl} {body : Expr} {scope : Scope} {params : Arguments} {lpos pos p : Pos} {l : List (Value × List V)} {k : Nat} {d : PyData} {C : Addr}
theorem de_ask (A : AskC X F.T l) (n0 : NT F.H0) (hr : Room (k + 2) X.A) (L : LamX.LamS X.env.scope scope)
    (hbody : ∀ (A : Around) (outer : List PySem.Env) (s : Shared) (H : Hp) (E : XK) (f c' : Addr), Room k (A.deeper (LamX.lamEnv X scope s.heap.objs.size f c')) → PE (LamX.lamCx X A outer s H E scope f c') body (tD X.K F Γ (.dat d) Γ1))
    (hg : Gl X "_law_ask" := by rfl) (hdef : defaultsOf params X.env = ([], []) := by rfl) (hbind : ∀ (q : Str) (cl : List (Str × Addr)) (pm cv ctv : Value), bindArgs (PySem.W.kla_fn "<lambda>" q params body scope cl pm cv ctv) ⟨[], []⟩ = pure [] := by intro _ _ _ _ _; rfl) :
    PE X (.Call (.Name "_law_ask" p) [.Lambda params body scope lpos] [] pos) (tD X.K F Γ (.dat (.tuple [.str "told", d])) Γ1) := by
  obtain ⟨g, c, Pt, pg, bg, sg, dV, kV, doc, pm, cdv, ct, oc, an, od, osl, a1, a2, a3, a4, a5, a6, a7, a8, a9, a10, a11, a12⟩ := A.ex
  refine pe_imp (LamX.pe_lamcall (t := fun _ => tD X.K F Γ (.dat d) Γ1) hg a1 a2 a3 a4 a5 a6 rfl a7 a8 a9 a10 a11 a12 hr L hdef hbind (fun A outer s H E f c' hr' => hbody A outer s H E f c' hr')) fun σ H Q ⟨G, E, q⟩ => ⟨E.tab, fun H1 eN t1 p0 hp0 Q' hQ => ?_⟩
  have E1 := E.extN n0 eN t1
  refine ⟨G, E1.newRaw hp0, fun v H2 G2 s2 E2 v2 => hQ v H2 fun p hp => ?_⟩
  have g := (E2.no hp).2.2
  exact q _ _ _ ((Step.extN eN).trans ((Step.newRaw hp0).trans (s2.trans (Step.newDat hp g)))) (E2.newDat hp) (.tup (SqT.of upd_same) (dpa_mono (same_upd g) _ _ (.cons (.str _) (.cons v2 .nil))))
def manyD (K : PySem.W.Frag) (its : List V) : List (Value × List V) → Value → Prop
  | [], _ => False
  | (c, i) :: r, cls => (PySem.W.exmOne K cls c = some true ∧ i = its) ∨ (PySem.W.exmOne K cls c = some false ∧ manyD K its r cls)
theorem many_of {K : PySem.W.Frag} {k : List V → Prop} {its : List V} (h : k its) : ∀ {l : List (Value × List V)} {cls : Value}, manyD K its l cls → many K k l cls
  | [], _, z => z.elim
  | (c, i) :: r, cls, .inl ⟨e, z⟩ => ⟨true, e, fun _ => by rw [z]; exact h, fun z => (by cases z)⟩
  | (c, i) :: r, cls, .inr ⟨e, z⟩ => ⟨false, e, fun z => (by cases z), fun _ => many_of h z⟩
theorem de_askX {a m : Str} (A : AskC X F.T l) (n0 : NT F.H0) (hr : Room (k + 2) X.A) (L : LamX.LamS X.env.scope scope) (hl : manyD X.K [.str a, .str m] l (.ref C))
    (hbody : ∀ (A : Around) (outer : List PySem.Env) (s : Shared) (H : Hp) (E : XK) (f c' : Addr), Room k (A.deeper (LamX.lamEnv X scope s.heap.objs.size f c')) → PE (LamX.lamCx X A outer s H E scope f c') body (tX X.K F (fun cls d _ H => E cls d H) Γ C Γ1))
    (hg : Gl X "_law_ask" := by rfl) (hdef : defaultsOf params X.env = ([], []) := by rfl) (hbind : ∀ (q : Str) (cl : List (Str × Addr)) (pm cv ctv : Value), bindArgs (PySem.W.kla_fn "<lambda>" q params body scope cl pm cv ctv) ⟨[], []⟩ = pure [] := by intro _ _ _ _ _; rfl) :
    PE X (.Call (.Name "_law_ask" p) [.Lambda params body scope lpos] [] pos) (tD X.K F Γ (.dat (.tuple [.str a, .str m])) Γ1) := by
  obtain ⟨g, c, Pt, pg, bg, sg, dV, kV, doc, pm, cdv, ct, oc, an, od, osl, a1, a2, a3, a4, a5, a6, a7, a8, a9, a10, a11, a12⟩ := A.ex
  refine pe_imp (LamX.pe_lamcall (t := fun E => tX X.K F (fun cls d _ H => E cls d H) Γ C Γ1) hg a1 a2 a3 a4 a5 a6 rfl a7 a8 a9 a10 a11 a12 hr L hdef hbind (fun A outer s H E f c' hr' => hbody A outer s H E f c' hr')) fun σ H Q ⟨G, E, q⟩ => ⟨E.tab, fun H1 eN t1 p0 hp0 Q' hQ => ?_⟩
  have E1 := E.extN n0 eN t1
  refine ⟨G, E1.newRaw hp0, fun H2 G2 s2 E2 => many_of (fun p hp => ?_) hl⟩
  have g := (E2.no hp).2.2
  exact q _ _ _ ((Step.extN eN).trans ((Step.newRaw hp0).trans (s2.trans (Step.newDat hp g)))) (E2.newDat hp) (.tup (SqT.of upd_same) (.cons (.str _) (.cons (.str _) .nil)))
end
structure CalD (P : Program) (w : World) (K : PySem.W.Frag) (mg : Str → Option Value) (base : Heap) (k : Nat) (x : Str) (ps : List Str) (sp : Sp) (dvs : List V) : Prop where
  ex : ∃ f fd ds, FnOk P w K mg base (L2.CX P w) k f fd ps sp ∧ mg x = some (.ref f) ∧ PySem.W.keepIn K (.ref f) = true ∧ Binds K fd ps ds ∧ Vals dvs ds
theorem CalD.mono {P : Program} {w : World} {K : PySem.W.Frag} {mg : Str → Option Value} {base : Heap} {j k : Nat} {x : Str} {ps : List Str} {sp : Sp} {dvs : List V} (C : CalD P w K mg base j x ps sp dvs) (h : j ≤ k) : CalD P w K mg base k x ps sp dvs := by
  obtain ⟨f, fd, ds, h1, h2, h3, h4, h5⟩ := C.ex
  exact ⟨f, fd, ds, h1.mono h, h2, h3, h4, h5⟩
section
variable {X : Cx} {F : Fx} {W : WX} {P : Out → Prop} {Γ Γ1 Γ2 : List Sl} {a b c e : Expr} {es : List Expr} {pos pos' p p2 : Pos} {k : Nat} {rest : List Stmt} {C : Addr} {x : Str} {ps : List Str} {rs : List Rv} {ds dds : List PyData} {dvs : List V} {d : PyData}
theorem dcD {R : List PyData → Res → Prop} (Cf : CalD X.prog X.w X.K X.mg X.base k x ps (spP X.K R) dvs) (hr : Room k X.A) (ha : PA X (e :: es) (tDA X.K F Γ rs Γ1)) (hR : R (ds ++ dds) (.ok d)) (hdv : ∀ G, DqAll X.K G dvs dds) (hd : datS rs = some ds := by rfl)
    (hg : Gl X x := by rfl) (hdb : (x == ("__debug__" : Str)) = false := by decide) (he : starEach (e :: es) X.env = (false, eval e X.env) :: starEach es X.env := by rfl) (hpl : (backTo pos (starEach es X.env)).any (·.1) = false := by rfl) :
    PE X (.Call (.Name x p) (e :: es) [] pos) (tD X.K F Γ (.dat d) Γ1) := by
  obtain ⟨f, fd, dsv, h1, h2, h3, h4, h5⟩ := Cf.ex
  exact pe_imp (pe_callSD (E := WE fun _ _ _ _ => False) h1 hr hg h2 h3 h4 h5 (fun σ => passAt takes0 σ) ha hdb he hpl) fun σ H Q ⟨G, E, q⟩ => ⟨G, E, fun vs H1 G1 s1 E1 v1 =>
    ⟨G1, ds ++ dds, .ok d, E1.le, E1.nt, dpa_app (datS_dp v1 hd) (hdv G1), hR, fun v H' G' g hv => q v H' G' (s1.trans g.step) (E1.grown g) hv⟩⟩
theorem dcDX {R : List PyData → Res → Prop} (Cf : CalD X.prog X.w X.K X.mg X.base k x ps (spP X.K R) dvs) (hr : Room k X.A) (tk : Takes X W) (ha : PA X (e :: es) (tDA X.K F Γ rs Γ1)) (hR : R (ds ++ dds) (.ex C)) (hdv : ∀ G, DqAll X.K G dvs dds) (hd : datS rs = some ds := by rfl)
    (hg : Gl X x := by rfl) (hdb : (x == ("__debug__" : Str)) = false := by decide) (he : starEach (e :: es) X.env = (false, eval e X.env) :: starEach es X.env := by rfl) (hpl : (backTo pos (starEach es X.env)).any (·.1) = false := by rfl) :
    PE X (.Call (.Name x p) (e :: es) [] pos) (tX X.K F W Γ C Γ1) := by
  obtain ⟨f, fd, dsv, h1, h2, h3, h4, h5⟩ := Cf.ex
  exact pe_imp (pe_callSD (E := WE W) h1 hr hg h2 h3 h4 h5 (fun σ => passAt tk σ) ha hdb he hpl) fun σ H Q ⟨G, E, q⟩ => ⟨G, E, fun vs H1 G1 s1 E1 v1 =>
    ⟨G1, ds ++ dds, .ex C, E1.le, E1.nt, dpa_app (datS_dp v1 hd) (hdv G1), hR, fun H' sm => q H' G1 (s1.trans (Grown.step ⟨sm, Same.r, E1.le.trans sm, fun a o h => .inl ⟨o, h⟩, E1.nt⟩)) (E1.grown ⟨sm, Same.r, E1.le.trans sm, fun a o h => .inl ⟨o, h⟩, E1.nt⟩)⟩⟩
end
structure DefV (K : PySem.W.Frag) (mg : Str → Option Value) (x : Str) (st : Stmt) (ps : List Str) (dvs : List V) (n : Nat) (ks : List Str) : Prop where
  ex : ∃ f fd ds, FunG K x x st f fd ∧ mg x = some (.ref f) ∧ Binds K fd ps [] ∧ Vals dvs ds ∧ Binds K fd ps ds ∧ KBn K fd ps n ks (· ++ ·) (· ++ ·)
structure CalV (P : Program) (w : World) (K : PySem.W.Frag) (mg : Str → Option Value) (base : Heap) (k : Nat) (x : Str) (ps : List Str) (sp : Sp) (dvs : List V) (n : Nat) (ks : List Str) : Prop where
  ex : ∃ f fd ds, FnOk P w K mg base (L2.CX P w) k f fd ps sp ∧ mg x = some (.ref f) ∧ PySem.W.keepIn K (.ref f) = true ∧ Binds K fd ps [] ∧ Vals dvs ds ∧ Binds K fd ps ds ∧ KBn K fd ps n ks (· ++ ·) (· ++ ·)
section
variable {P : Program} {w : World} {K : PySem.W.Frag} {mg : Str → Option Value} {base : Heap} {j k n : Nat} {x : Str} {N ps ks : List Str} {sp : Sp} {dvs : List V} {st : Stmt}
theorem CalV.mono (C : CalV P w K mg base j x ps sp dvs n ks) (h : j ≤ k) : CalV P w K mg base k x ps sp dvs n ks := by
  obtain ⟨f, fd, ds, h1, r⟩ := C.ex
  exact ⟨f, fd, ds, h1.mono h, r⟩
theorem CalV.full (C : CalV P w K mg base k x ps sp dvs n ks) : Cal P w K mg base k x ps sp := by
  obtain ⟨f, fd, ds, h1, h2, h3, h4, _⟩ := C.ex
  exact ⟨f, fd, h1, h2, h3, h4⟩
theorem CalV.dflt (C : CalV P w K mg base k x ps sp dvs n ks) : CalD P w K mg base k x ps sp dvs := by
  obtain ⟨f, fd, ds, h1, h2, h3, h4, h5, h6, _⟩ := C.ex
  exact ⟨f, fd, ds, h1, h2, h3, h6, h5⟩
theorem cal_pureV {R : List PyData → Res → Prop} (D : DefV K mg x st ps dvs n ks) (S : FnScope N ps (defScope st)) (len : ∀ ds r, R ds r → ds.length = ps.length) (hle : ps.length ≤ N.length)
    (body : ∀ (f : Addr) (cdv : Value) (A : Around) (outer : List PySem.Env) (s : Shared) (H G : Hp) (E : XK) (ds : List PyData) (r : Res), Room k (A.deeper (envOfC x (defScope st) s.heap.objs.size f cdv)) → R ds r →
      PSs (cxOf (L2.CX P w) P w K mg base N x (defScope st) f cdv A outer s H E) (defBody st) (tS K (fx0 H G) (fun c d _ H => E c d H) (startG N.length ds) (wantP r))) : CalV P w K mg base (k + 1) x ps (spP K R) dvs n ks := by
  obtain ⟨f, fd, ds, F, h1, h2, h3, h4, h5⟩ := D.ex
  exact ⟨f, fd, ds, fn_pure F S len hle (body f), h1, F.kp, h2, h3, h4, h5⟩
end
section
variable {X : Cx} {F : Fx} {Γ Γ1 Γ2 : List Sl} {a b c e : Expr} {es : List Expr} {pos pos' p p2 : Pos} {k n : Nat} {x : Str} {ps ks : List Str} {rs : List Rv} {ds : List PyData} {dvs : List V} {d d2 : PyData} {kws : List Keyword}
theorem dcK {R : List PyData → Res → Prop} {nm : Option Str} {kpos : Pos} (Cf : CalV X.prog X.w X.K X.mg X.base k x ps (spP X.K R) dvs n ks) (hr : Room k X.A) (ha : PA X (e :: es) (tDA X.K F Γ rs Γ1)) (hb : PE X b (tD X.K F Γ1 (.dat d2) Γ2)) (hR : R (ds ++ [d2]) (.ok d)) (hn : ds.length = n) (hks : ks.length = 1) (hd : datS rs = some ds := by rfl)
    (hg : Gl X x := by rfl) (hall : (backToKw pos (keywordEach [⟨nm, b, kpos⟩] X.env)).all (·.1.isSome) = true := by rfl) (hks2 : (backToKw pos (keywordEach [⟨nm, b, kpos⟩] X.env)).filterMap (·.1) = ks := by rfl)
    (hdb : (x == ("__debug__" : Str)) = false := by decide) (he : starEach (e :: es) X.env = (false, eval e X.env) :: starEach es X.env := by rfl)
    (hpl : ((backTo pos (starEach (e :: es) X.env)).any (·.1) || (backToKw pos (keywordEach [⟨nm, b, kpos⟩] X.env)).any (·.1.isNone)) = false := by rfl) :
    PE X (.Call (.Name x p) (e :: es) [⟨nm, b, kpos⟩] pos) (tD X.K F Γ (.dat d) Γ2) := by
  obtain ⟨f, fd, dsv, h1, h2, h3, h4, h5, h6, h7⟩ := Cf.ex
  refine pe_imp (pe_callN (E := fun _ _ _ => False) h1 hr hg h2 h3 h7 (fun pins σ H s e s' I c => passes_call takes0 (fun _ _ _ _ h => h) pins σ H s e s' I c) ha (pk_cons hb pk_nil) hall hks2 hdb he hpl) fun σ H Q ⟨G, E, q⟩ => ⟨G, E, fun vs H1 G1 s1 E1 v1 => ⟨G1, E1, fun v H2 G2 s2 E2 v2 => ?_⟩⟩
  have a1 := datS_dp v1 hd
  refine ⟨(dpa_len a1).trans hn, hks.symm, G2, ds ++ [d2], .ok d, E2.le, E2.nt, dpa_app (dpa_mono s2.g _ _ a1) (.cons v2 .nil), hR, fun v H' G' g hv => q v H' G' ((s1.trans s2).trans g.step) (E2.grown g) hv⟩
end
theorem bindsTo_d {s : Shared} {fd : FuncData} {args : Args} {binds : List (Str × Value)} {K : PySem.W.Frag} {T : Addr} {o : Obj} {its : Array Value} {n : Nat} (kin : K.In s.heap) (lT : K.lookup T = some o) (oT : o.data = .seq its n)
    (h : ∃ k, bindArgs fd args = seqItems? (.ref T) >>= k ∧ k (some its) = pure binds) : BindsTo s fd args binds := by
  obtain ⟨k, e1, e2⟩ := h
  refine BindsTo.of_looks fun M => ?_
  rw [e1]
  exact looks_items kin lT oT (.of_pure e2)
theorem law_mkT {P : Program} {w : World} {K : PySem.W.Frag} {mg : Str → Option Value} {base : Heap} {k : Nat} {st : Stmt} {f c : Addr} {N : List Str} {T : List (Addr × Str)} {oc kV doc pm ct : Value} {od an : Option Addr} {osl : Array (Option Value)}
    (lk : K.lookup f = some ⟨oc, od, .func (PySem.W.fnOf "law" "law" (defArgs st) (defBody st) (defScope st) .none kV doc pm an (.ref c) ct), osl⟩) (hcd : PySem.W.codeIn K (.ref c) "law" = true) (S : FnScope N ["script"] (defScope st))
    (body : ∀ (A : Around) (outer : List PySem.Env) (s : Shared) (H : Hp) (E : XK), Room k (A.deeper (envOfC "law" (defScope st) s.heap.objs.size f (.ref c))) →
      PSs (cxOf (L2.CX P w) P w K mg base N "law" (defScope st) f (.ref c) A outer s H E) (defBody st) (fun D σ H => σ.length = N.length ∧ (∃ (a : Addr) (ns : List Int), σ[0]? = some (some (.ref a)) ∧ SqL K H a (ns.map V.int) ∧ ns.length ≤ 63) ∧ LamX.Tabs T H ∧ ∀ H', D.rt (.bl true) H'))
    (hN : ∀ v : V, (L2.start N [v]).length = N.length ∧ (L2.start N [v])[0]? = some (some v) := by intro _; exact ⟨rfl, rfl⟩) : FnOk P w K mg base (L2.CX P w) (k + 1) f (PySem.W.fnOf "law" "law" (defArgs st) (defBody st) (defScope st) .none kV doc pm an (.ref c) ct) ["script"] (spLaw K T) := by
  refine fn_of lk hcd S (fun vs H Q E h => ?_) (fun A outer s H vs Q E hr h => ?_)
  · obtain ⟨a, ns, rfl, _⟩ := h; rfl
  · obtain ⟨a, ns, rfl, hS, hlen, tb, q⟩ := h
    exact ⟨_, body A outer s H E hr, (hN _).1, ⟨a, ns, (hN _).2, hS, hlen⟩, tb, q⟩
theorem law_atT {l : PySem.W.OpenLaw} {w : World} {K : PySem.W.Frag} {mg : Str → Option Value} {k : Nat} {fa c Pt : Addr} {h : Heap} {name qual : Str} {params : Arguments} {body : List Stmt} {scope : Scope} {dV kV doc pm ct oc : Value} {od an : Option Addr} {osl : Array (Option Value)} {q : Str} (KX : K.In h)
    (lk : K.lookup fa = some ⟨oc, od, .func (PySem.W.fnOf name qual params body scope dV kV doc pm an (.ref c) ct), osl⟩) (hc : PySem.W.codeHdIn K c Pt = true) (nP : K.lookup Pt = none) (hT : h.get? Pt = some { cls := .none, data := .fields #[] })
    (hb : ∀ (s : Shared) (v : Value), BindsTo s (PySem.W.fnOf name qual params body scope dV kV doc pm an (.ref c) ct) ⟨[v], []⟩ [("script", v)])
    (F : ∀ base : Heap, K.In base → base.Ns mainGlobals mg → LamX.TabB base mg c Pt → FnOk l.prog w K mg base (L2.CX l.prog w) k fa (PySem.W.fnOf name qual params body scope dV kV doc pm an (.ref c) ct) ["script"] (spLaw K [(Pt, q)])) : LamX.LawAtS l w K (L2.CX l.prog w) k 63 "script" mg fa h := by
  refine ⟨_, [(c, Pt)], spLaw K [(Pt, q)], fun p hp => ?_, fun p hp => ?_, fun p hp => ?_, hb, fun H a ns hl _ hH hS => ⟨a, ns, rfl, hS, hl, fun p hp => ?_, fun _ => rfl⟩, fun base k1 k2 k3 => F base k1 k2 (k3 _ List.mem_cons_self)⟩
  · rw [List.mem_singleton] at hp; subst hp; exact hT
  · rw [List.mem_singleton] at hp; subst hp; exact nP
  · rw [List.mem_singleton] at hp; subst hp; exact PySem.W.codeHd_of_K KX hc
  · rw [List.mem_singleton] at hp; subst hp
    exact LamX.TabS.nil (hH _ List.mem_cons_self)
end AM

set_option Elab.async false
set_option linter.all false
set_option maxRecDepth 100000
set_option maxHeartbeats 2000000
namespace AM
open PySem PySem.Spec PyProof.Rows L2
theorem fmod_nat (x y : Nat) : (x : Int).fmod (y : Int) = ((x % y : Nat) : Int) := by
  rw [Int.fmod_eq_emod_of_nonneg _ (by omega)]; exact (Int.natCast_emod x y).symm
def sgcd (a b : Int) : Int := if b < 0 then 0 - (Int.gcd a b : Int) else (Int.gcd a b : Int)
def lowT (a b : Int) : Int := a.fdiv (sgcd a b)
def lowB (a b : Int) : Int := b.fdiv (sgcd a b)
def lowD (a b : Int) : PyData := .tuple [.int (lowT a b), .int (lowB a b)]
theorem gcd_pos {a b : Int} (h : b ≠ 0) : 0 < Int.gcd a b := Int.gcd_pos_of_ne_zero_right a h
theorem sgcd_ne {a b : Int} (h : b ≠ 0) : sgcd a b ≠ 0 := by
  have := gcd_pos (a := a) h
  unfold sgcd; split <;> omega
theorem sgcd_abs {a b : Int} (h : b ≠ 0) : (sgcd a b).natAbs ≤ b.natAbs := by
  have h1 := Nat.le_of_dvd (by omega) (Int.gcd_dvd_natAbs_right a b)
  unfold sgcd; split <;> omega
def R_gcd : List PyData → Res → Prop := fun ds r => ∃ a b : Int, ds = [.int a, .int b] ∧ r = .ok (.int (Int.gcd a b : Int))
def R_low : List PyData → Res → Prop := fun ds r => ∃ a b : Int, ds = [.int a, .int b] ∧ b ≠ 0 ∧ b.natAbs < 2 ^ 9000 ∧ r = .ok (lowD a b)
def isRatioD : PyData → Bool
  | .tuple [.int a, .int b] => decide (0 < b) && decide ((Int.gcd a b : Int) = 1)
  | _ => false
theorem small9 {i : Int} (h : -1000000000000000 ≤ i ∧ i ≤ 1000000000000000) : i.natAbs < 2 ^ 9000 := by
  have h1 : i.natAbs < 2 ^ 50 := by
    have e : (2 : Nat) ^ 50 = 1125899906842624 := by decide
    rw [e]; omega
  exact Nat.lt_of_lt_of_le h1 (Nat.pow_le_pow_right (by decide) (by decide))
theorem pl_str (n : Nat) (s : Str) (h : PyData.canLay0 (.str s) = true) : pl n (.str s) := by cases n <;> exact h
theorem pl_low (a b : Int) : pl 10 (lowD a b) := pl_ints 9 (ns := [lowT a b, lowB a b]) (by simp)
theorem lowD_one (a : Int) : lowD a 1 = .tuple [.int a, .int 1] := by
  have e : sgcd a 1 = 1 := by unfold sgcd; rw [if_neg (by decide), Int.gcd_one]; rfl
  unfold lowD lowT lowB; rw [e, Int.fdiv_one]; rfl
def gcdL : Nat → List Int → Nat
  | g, [] => g
  | g, a :: r => gcdL (Nat.gcd g a.natAbs) r
def R_gcdL : List PyData → Res → Prop := fun ds r => ∃ (d : PyData) (ns : List Int), ds = [d] ∧ sqOf d = some (ns.map .int) ∧ r = .ok (.int (gcdL 0 ns : Int))
end AM

set_option Elab.async false
set_option linter.all false
set_option maxRecDepth 100000
set_option maxHeartbeats 4000000
namespace LW
open PySem PySem.Spec PyProof.Rows L2 AM
def topS (i : Nat) : Stmt := PySem.Challenge.pw_trueroots_k01_what_is_a_fraction.main.body.getD i (.Pass ⟨0, 0, 0, 0⟩)
abbrev s_greatest : Stmt := topS 5
abbrev s_is_whole : Stmt := topS 6
abbrev s_lowest : Stmt := topS 7
abbrev s_ratio : Stmt := topS 8
abbrev s_is_ratio : Stmt := topS 9
abbrev s__law_well : Stmt := topS 11
abbrev s__law_take : Stmt := topS 12
abbrev s__law_bags : Stmt := topS 13
abbrev s__law_same : Stmt := topS 14
abbrev s__law_low : Stmt := topS 15
abbrev s__law_int : Stmt := topS 16
abbrev s__law_wide : Stmt := topS 17
abbrev s__law_gcd : Stmt := topS 18
abbrev s__law_is_int : Stmt := topS 19
abbrev s__law_odd : Stmt := topS 20
abbrev s__law_ask : Stmt := topS 21
abbrev s__law_is_due : Stmt := topS 22
abbrev s__law_things : Stmt := topS 23
abbrev s_law : Stmt := topS 24

section
variable {a_RootError a_NoSuch a_NoRatio : Addr}
section
variable {P : Program} {w : World} {K : PySem.W.Frag} {mg : Str → Option Value} {base : Heap} {k : Nat}
theorem sc_greatest : FnScope ["one", "other"] ["one", "other"] (defScope s_greatest) := ⟨rfl, rfl, rfl, by decide +kernel, rfl, by decide +kernel, by decide +kernel⟩
theorem c_greatest (D : Def K mg "greatest" s_greatest ["one", "other"]) (B : Bt mg) : Cal P w K mg base (k + 1) "greatest" ["one", "other"] (spP K R_gcd) := by
  refine cal_pure D sc_greatest (fun ds r h => ?_) (by decide) (fun f cdv A outer s H G E ds r hr h => ?_)
  · obtain ⟨a, b, rfl, _⟩ := h; rfl
  · obtain ⟨a, b, rfl, rfl⟩ := h
    refine ds_set 0 (de_abs (de_var 0) B.abs) (ds_set 1 (de_abs (de_var 1) B.abs) ?_ sc_greatest.nd) sc_greatest.nd
    refine ds_while (fun m Γ => ∃ x y : Nat, Γ = [.dat (.int x), .dat (.int y)] ∧ Nat.gcd x y = Int.gcd a b ∧ m = y) _ ⟨a.natAbs, b.natAbs, rfl, rfl, rfl⟩ (passes_of rfl) (fun m Γ hV => ?_)
    obtain ⟨x, y, rfl, hg, rfl⟩ := hV
    refine ⟨_, _, dt_neI (de_var 1) de_int, fun h => ?_, fun h => ?_⟩
    · have hy : (m : Int) ≠ 0 := by simpa using h
      refine ds_par 0 1 (da_cons (de_var 1) (da_cons (de_as (de_mod (de_var 0) (de_var 1) hy) (by rw [fmod_nat])) da_nil)) (ds_nil ⟨x % m, Nat.mod_lt _ (by omega), m, x % m, rfl, ?_, rfl⟩) sc_greatest.nd
      rw [← hg, Nat.gcd_comm m, ← Nat.gcd_rec, Nat.gcd_comm]
    · have hy : (m : Int) = 0 := by simpa using h
      refine ds_ret (de_var 0) ?_
      have : m = 0 := by omega
      subst this
      show PyData.int _ = .int _
      rw [← hg, Nat.gcd_zero_right]

theorem sc_is_whole : FnScope ["thing"] ["thing"] (defScope s_is_whole) := ⟨rfl, rfl, rfl, by decide +kernel, rfl, by decide +kernel, by decide +kernel⟩
def R_is_whole : List PyData → Res → Prop := fun ds r => ∃ d, ds = [d] ∧ r = .ok (.bool (isWhole d))
theorem c_is_whole (D : Def K mg "is_whole" s_is_whole ["thing"]) (B : Bt mg) : Cal P w K mg base (k + 1) "is_whole" ["thing"] (spP K R_is_whole) := by
  refine cal_pure D sc_is_whole (fun ds r h => ?_) (by decide) (fun f cdv A outer s H G E ds r hr h => ?_)
  · obtain ⟨d, rfl, _⟩ := h; rfl
  · obtain ⟨d, rfl, rfl⟩ := h
    refine ds_ret (de_and (de_isiI B (de_var 0)) fun _ => de_one (de_not (de_isiB B (de_var 0)))) ?_
    show PyData.bool _ = .bool _
    rw [isWhole_eq]

theorem sc_lowest : FnScope ["top", "bottom", "part"] ["top", "bottom"] (defScope s_lowest) := ⟨rfl, rfl, rfl, by decide +kernel, rfl, by decide +kernel, by decide +kernel⟩
theorem c_lowest (D : Def K mg "lowest" s_lowest ["top", "bottom"]) (C_greatest : Cal P w K mg base k "greatest" ["one", "other"] (spP K R_gcd)) : Cal P w K mg base (k + 1) "lowest" ["top", "bottom"] (spP K R_low) := by
  refine cal_pure D sc_lowest (fun ds r h => ?_) (by decide) (fun f cdv A outer s H G E ds r hr h => ?_)
  · obtain ⟨a, b, rfl, _⟩ := h; rfl
  · obtain ⟨a, b, rfl, h0, hb, rfl⟩ := h
    refine ds_set 2 (dc C_greatest hr (da_cons (de_var 0) (da_cons (de_var 1) da_nil)) ⟨a, b, rfl, rfl⟩) ?_ sc_lowest.nd
    refine ds_cut (fun Γ => Γ = [.dat (.int a), .dat (.int b), .dat (.int (sgcd a b))]) (fun Γ hJ => ?_) fun tail => ?_
    · subst hJ
      have hd : ∀ i, CDivA i (sgcd a b) := fun _ => ⟨sgcd_ne h0, Nat.lt_of_le_of_lt (sgcd_abs h0) hb⟩
      exact ds_ret (de_tup (da_cons (de_fdiv (de_var 0) (de_var 2) (hd _)) (da_cons (de_fdiv (de_var 1) (de_var 2) (hd _)) da_nil)) (by simp)) rfl
    · refine ds_if (dt_lt (de_var 1) de_int) (fun h => ?_) (fun h => ?_)
      · refine ds_set 2 (de_sub de_int (de_var 2)) (ds_skip (tail _ ?_)) sc_lowest.nd
        show [Sl.dat (.int a), .dat (.int b), .dat (.int _)] = _
        unfold sgcd; rw [if_pos (by simpa using h)]
      · refine ds_skip (tail _ ?_)
        show [Sl.dat (.int a), .dat (.int b), .dat (.int _)] = _
        unfold sgcd; rw [if_neg (by simpa using h)]

theorem sc_ratio : FnScope ["top", "bottom"] ["top", "bottom"] (defScope s_ratio) := ⟨rfl, rfl, rfl, by decide +kernel, rfl, by decide +kernel, by decide +kernel⟩
def ratioR (C : Addr) : PyData → PyData → Res
  | .int a, .int b => if b = 0 then .ex C else .ok (lowD a b)
  | _, _ => .ex C
def R_ratio (C : Addr) : List PyData → Res → Prop := fun ds r => ∃ a b, ds = [a, b] ∧ (∀ j, b = .int j → j.natAbs < 2 ^ 9000) ∧ r = ratioR C a b
theorem ratioR_other {C : Addr} {a b : PyData} (h : isWhole a = false ∨ isWhole b = false) : ratioR C a b = .ex C := by
  rcases h with h | h
  · cases a <;> first | rfl | cases h
  · cases a <;> cases b <;> first | rfl | cases h
theorem c_ratio (D : DefV K mg "ratio" s_ratio ["top", "bottom"] [.int 1] 1 ["bottom"]) (X_NoRatio : Xcl K mg "NoRatio" a_NoRatio) (C_is_whole : Cal P w K mg base k "is_whole" ["thing"] (spP K R_is_whole)) (C_lowest : Cal P w K mg base k "lowest" ["top", "bottom"] (spP K R_low)) : CalV P w K mg base (k + 1) "ratio" ["top", "bottom"] (spP K (R_ratio a_NoRatio)) [.int 1] 1 ["bottom"] := by
  refine cal_pureV D sc_ratio (fun ds r h => ?_) (by decide) (fun f cdv A outer s H G E ds r hr h => ?_)
  · obtain ⟨a, b, rfl, _⟩ := h; rfl
  · obtain ⟨a, b, rfl, hj, rfl⟩ := h
    cases ha : isWhole a with
    | false =>
      refine ds_if (k := true) (PW.pt (dw_orT (dt_as (dt_not (dt_b (dc C_is_whole hr (da_cons (de_var 0) da_nil) ⟨a, rfl, rfl⟩))) (by rw [ha]; rfl)))) (fun _ => ds_raise X_NoRatio (takes_of rfl rfl rfl rfl) ?_) (fun h => by cases h)
      rw [ratioR_other (.inl ha)]; exact rfl
    | true =>
      cases hb : isWhole b with
      | false =>
        refine ds_if (k := true) (PW.pt (dw_orF (dt_as (dt_not (dt_b (dc C_is_whole hr (da_cons (de_var 0) da_nil) ⟨a, rfl, rfl⟩))) (by rw [ha]; rfl)) (dw_orT (dt_as (dt_not (dt_b (dc C_is_whole hr (da_cons (de_var 1) da_nil) ⟨b, rfl, rfl⟩))) (by rw [hb]; rfl))))) (fun _ => ds_raise X_NoRatio (takes_of rfl rfl rfl rfl) ?_) (fun h => by cases h)
        rw [ratioR_other (.inr hb)]; exact rfl
      | true =>
        obtain ⟨i, rfl⟩ : ∃ i, a = .int i := by cases a <;> first | exact ⟨_, rfl⟩ | cases ha
        obtain ⟨j, rfl⟩ : ∃ i, b = .int i := by cases b <;> first | exact ⟨_, rfl⟩ | cases hb
        refine ds_if (PW.pt (dw_orF (dt_as (dt_not (dt_b (dc C_is_whole hr (da_cons (de_var 0) da_nil) ⟨_, rfl, rfl⟩))) rfl) (dw_orF (dt_as (dt_not (dt_b (dc C_is_whole hr (da_cons (de_var 1) da_nil) ⟨_, rfl, rfl⟩))) rfl) (dw_or1 (dt_eqI (de_var 1) de_int))))) (fun h => ds_raise X_NoRatio (takes_of rfl rfl rfl rfl) ?_) (fun h => ?_)
        · have h : j = 0 := by simpa using h
          show wantP (if j = 0 then _ else _) _
          rw [if_pos h]; exact rfl
        · have h : j ≠ 0 := by simpa using h
          refine ds_skip (ds_ret (dc C_lowest hr (da_cons (de_var 0) (da_cons (de_var 1) da_nil)) ⟨i, j, rfl, h, hj j rfl, rfl⟩) ?_)
          show wantP (if j = 0 then _ else _) _
          rw [if_neg h]; exact rfl

theorem sc_is_ratio : FnScope ["thing"] ["thing"] (defScope s_is_ratio) := ⟨rfl, rfl, rfl, by decide +kernel, rfl, by decide +kernel, by decide +kernel⟩
def R_is_ratio : List PyData → Res → Prop := fun ds r => ∃ d, ds = [d] ∧ r = .ok (.bool (isRatioD d))
theorem isRatioD_other {a b : PyData} (h : isWhole a = false ∨ isWhole b = false) : isRatioD (.tuple [a, b]) = false := by
  rcases h with h | h
  · cases a <;> first | rfl | cases h
  · cases a <;> cases b <;> first | rfl | cases h
theorem c_is_ratio (D : Def K mg "is_ratio" s_is_ratio ["thing"]) (B : Bt mg) (C_is_whole : Cal P w K mg base k "is_whole" ["thing"] (spP K R_is_whole)) (C_greatest : Cal P w K mg base k "greatest" ["one", "other"] (spP K R_gcd)) : Cal P w K mg base (k + 1) "is_ratio" ["thing"] (spP K R_is_ratio) := by
  refine cal_pure D sc_is_ratio (fun ds r h => ?_) (by decide) (fun f cdv A outer s H G E ds r hr h => ?_)
  · obtain ⟨d, rfl, _⟩ := h; rfl
  · obtain ⟨d, rfl, rfl⟩ := h
    cases hT : isT d with
    | false =>
      refine ds_if (k := true) (PW.pt (dw_orT (dt_as (dt_not (dt_b (de_isiT B (de_var 0)))) (by rw [hT]; rfl)))) (fun _ => ds_ret de_bl ?_) (fun h => by cases h)
      show PyData.bool false = .bool (isRatioD d)
      cases d <;> first | rfl | cases hT
    | true =>
      obtain ⟨es, rfl⟩ : ∃ es, d = .tuple es := by cases d <;> first | exact ⟨_, rfl⟩ | cases hT
      by_cases hl : es.length = 2
      · obtain ⟨a, b, rfl⟩ : ∃ a b, es = [a, b] := by
          match es, hl with
          | [a, b], _ => exact ⟨a, b, rfl⟩
        refine ds_if (PW.pt (dw_orF (dt_as (dt_not (dt_b (de_isiT B (de_var 0)))) rfl) (dw_orF (dt_as (dt_neI (de_len (de_var 0) B.len) de_int) rfl)
          (dw_or (dt_not (dt_b (dc C_is_whole hr (da_cons (de_ix (de_var 0) de_int (d := a) rfl) da_nil) ⟨a, rfl, rfl⟩))) fun _ => dw_or1 (dt_not (dt_b (dc C_is_whole hr (da_cons (de_ix (de_var 0) de_int (d := b) rfl) da_nil) ⟨b, rfl, rfl⟩))))))) (fun h => ds_ret de_bl ?_) (fun h => ?_)
        · show PyData.bool false = .bool (isRatioD _)
          rw [isRatioD_other]
          cases z : isWhole a with
          | false => exact .inl rfl
          | true => rw [z] at h; exact .inr (by simpa using h)
        · have ha : isWhole a = true := by cases z : isWhole a with | true => rfl | false => rw [z] at h; cases h
          have hb : isWhole b = true := by cases z : isWhole b with | true => rfl | false => rw [ha, z] at h; cases h
          obtain ⟨i, rfl⟩ : ∃ i, a = .int i := by cases a <;> first | exact ⟨_, rfl⟩ | cases ha
          obtain ⟨j, rfl⟩ : ∃ i, b = .int i := by cases b <;> first | exact ⟨_, rfl⟩ | cases hb
          exact ds_skip (ds_ret (de_and (de_gt (de_ix (de_var 0) de_int (d := .int j) rfl) de_int) fun _ => de_one (de_eqI (dc C_greatest hr (da_cons (de_ix (de_var 0) de_int (d := .int i) rfl) (da_cons (de_ix (de_var 0) de_int (d := .int j) rfl) da_nil)) ⟨i, j, rfl, rfl⟩) de_int)) rfl)
      · refine ds_if (k := true) (PW.pt (dw_orF (dt_as (dt_not (dt_b (de_isiT B (de_var 0)))) rfl) (dw_orT (dt_as (dt_neI (de_len (de_var 0) B.len) de_int) ?_)))) (fun _ => ds_ret de_bl ?_) (fun h => by cases h)
        · rw [decide_eq_false (by omega)]; rfl
        · show PyData.bool false = .bool (isRatioD (.tuple es))
          match es, hl with
          | [], _ => rfl
          | [a], _ => rw [isRatioD]; intro a b z; cases z
          | a :: b :: c :: r, _ => rw [isRatioD]; intro a b z; cases z
          | [a, b], hl => exact absurd rfl hl

theorem sc__law_well : FnScope ["cell", "turn"] ["cell", "turn"] (defScope s__law_well) := ⟨rfl, rfl, rfl, by decide +kernel, rfl, by decide +kernel, by decide +kernel⟩
theorem c__law_well (D : Def K mg "_law_well" s__law_well ["cell", "turn"]) : Cal P w K mg base (k + 1) "_law_well" ["cell", "turn"] (spWell K) := by
  have C : Cal P w K mg base (k + 1) "_law_well" ["cell", "turn"] (spP K R_well) := by
    refine cal_pure D sc__law_well (fun ds r h => ?_) (by decide) (fun f cdv A outer s H G E ds r hr h => ?_)
    · obtain ⟨c, t, rfl, _⟩ := h; rfl
    · obtain ⟨c, t, rfl, rfl⟩ := h
      refine ds_if (dt_ge (de_var 0) (de_pw 1000000000000000000 de_int de_int)) (fun h => ?_) (fun h => ?_)
      · refine ds_ret (de_fz (dn_lst (ds := [.int (c - 1000000000000000000), .int (c.fmod P61), .int t]) (da_cons (de_sub (de_var 0) (de_pw 1000000000000000000 de_int de_int)) (da_cons (de_mod (de_var 0) de_int (by decide)) (da_cons (de_var 1) da_nil))) (by show 3 ≤ 100000; decide))) ?_
        show PyData.list _ = .list (bagD (wellB c t))
        rw [wellB, if_pos (of_decide_eq_true h)]; rfl
      · refine ds_skip ?_
        refine ds_ret (de_fz (dn_lst (ds := [.int 0, .int (c.fmod P61), .int t]) (da_cons de_int (da_cons (de_mod (de_var 0) de_int (by decide)) (da_cons (de_var 1) da_nil))) (by show 3 ≤ 100000; decide))) ?_
        show PyData.list _ = .list (bagD (wellB c t))
        rw [wellB, if_neg (of_decide_eq_false h)]; rfl
  exact C.imp well_imp

theorem sc__law_take : FnScope ["bag", "many", "found", "p", "n"] ["bag", "many"] (defScope s__law_take) := ⟨rfl, rfl, rfl, by decide +kernel, rfl, by decide +kernel, by decide +kernel⟩
theorem c__law_take (D : Def K mg "_law_take" s__law_take ["bag", "many"]) : Cal P w K mg base (k + 1) "_law_take" ["bag", "many"] (spB K R_take) := by
  refine cal_bag D sc__law_take (fun xs ds d xs' h => ?_) (by decide) (fun f cdv A outer s H G E p xs ds d xs' hr h => ?_)
  · obtain ⟨b, m, n, _, _, _, _, _, rfl, _⟩ := h; rfl
  · obtain ⟨b, m, n, ok, hn, hm0, hm1, rfl, rfl, rfl, rfl⟩ := h
    have z0 := ok.z0
    have z1 := ok.z1
    refine ds_if (dt_gt (de_ix (de_varO 0) de_int rfl) de_int) (fun h => ?_) (fun h => ?_)
    · have hx : 0 < b.x := of_decide_eq_true h
      refine ds_set 2 (de_mod (de_ix (de_varO 0) de_int rfl) (de_var 1) (by omega)) ?_ sc__law_take.nd
      refine ds_item (i := 0) (j := 0) (de_fdiv (de_ix (de_varO 0) de_int rfl) (de_var 1) (divC _ (by omega) 64 (by omega) (by decide))) (de_varO 0) de_int rfl ?_
      refine ds_ret (de_var 2) ?_
      show PyData.int _ = .int _ ∧ Sl.own _ = .own _
      rw [take, if_pos hx]
      exact ⟨rfl, rfl⟩
    · have hx : ¬ 0 < b.x := of_decide_eq_false h
      refine ds_skip ?_
      refine ds_item (i := 0) (j := 2) (de_add (de_ix (de_varO 0) de_int rfl) de_int) (de_varO 0) de_int rfl ?_
      refine ds_set 3 de_int ?_ sc__law_take.nd
      have r1 := fmod_rng (b.y + 1000003 * (b.z + 1)) (m := P61) (by decide)
      have r2 := fmod_rng ((b.y + 1000003 * (b.z + 1)).fmod P61 * (b.y + 1000003 * (b.z + 1)).fmod P61 + 7919 * (b.z + 1) ^ 2 + 5) (m := P61) (by decide)
      refine ds_set 4 (de_mod (de_add (de_ix (de_varO 0) de_int rfl) (de_mul de_int (de_ix (de_varO 0) de_int rfl) (mulL (by decide)))) (de_var 3) (by decide)) ?_ sc__law_take.nd
      have e61 : P61 = 2305843009213693951 := rfl
      refine ds_set 4 (de_mod (de_add (de_add (de_mul (de_var 4) (de_var 4) (mulL (by show ((b.y + 1000003 * (b.z + 1)).fmod P61).natAbs < 2 ^ 64; omega))) (de_mul de_int (de_pow (de_ix (de_varO 0) de_int rfl) de_int ⟨by decide, by decide, by show (b.z + 1).natAbs < 2 ^ 64; omega⟩) (mulL (by decide)))) de_int) (de_var 3) (by decide)) ?_ sc__law_take.nd
      refine ds_ret (de_mod (de_fdiv (de_mod (de_pow (de_var 4) de_int ⟨by decide, by decide, by show ((((b.y + 1000003 * (b.z + 1)).fmod P61 * (b.y + 1000003 * (b.z + 1)).fmod P61 + 7919 * (b.z + 1) ^ 2 + 5)).fmod P61).natAbs < 2 ^ 64; omega⟩) (de_var 3) (by decide)) de_int (divC _ (by decide) 64 (by decide) (by decide))) (de_var 1) (by omega)) ?_
      show PyData.int _ = .int _ ∧ Sl.own _ = .own _
      rw [take, if_neg hx]
      exact ⟨rfl, rfl⟩

theorem sc__law_bags : FnScope ["script", "most", "k", "cell"] ["script", "most"] (defScope s__law_bags) := ⟨rfl, rfl, rfl, by decide +kernel, rfl, by decide +kernel, by decide +kernel⟩
theorem c__law_bags (D : Def K mg "_law_bags" s__law_bags ["script", "most"]) (B : Bt mg) (C__law_well : Cal P w K mg base k "_law_well" ["cell", "turn"] (spWell K)) : Cal P w K mg base (k + 1) "_law_bags" ["script", "most"] (spBags K) := by
  obtain ⟨fw, fdw, w1, w2, w3, w4⟩ := C__law_well.ex
  refine cal_raw D sc__law_bags (fun vs H Q E h => ?_) (fun f cdv A outer s H vs Q E hr h => ?_)
  · obtain ⟨a, ns, m, rfl, _⟩ := h; rfl
  · obtain ⟨a, ns, m, rfl, hS, hlen, q⟩ := h
    refine ⟨_, pss_one (ps_ret (pe_lc (own := [("k", 2), ("cell", 3)]) (g := gTup K 2 (gCons (gName 2) (gCons (gName 3) gNil))) rfl sc__law_bags.nd (pi_enum rfl B.enum (pa_cons (pe_op op_catR (pe_slice sl_list (pv 0) po_none (po_some (pv 1))) (pe_lst (pa_cons pe_int pa_nil))) pa_nil)) (blkOk_by (own := [("k", 2), ("cell", 3)]) (N := ["script", "most", "k", "cell"]) (sc := defScope s__law_bags) (by decide +kernel))
      (fun _ _ _ _ _ => pt_pair 2 3 sc__law_bags.nd) (fun _ _ _ _ _ => pts_nil) (fun _ _ _ _ _ => pe_callS (E := WE fun _ _ _ _ => False) w1 hr rfl w2 w3 w4 (fun σ => passAt takes0 σ) (pa_cons (pv 3) (pa_cons (pe_op op_mul pe_int (pv 2)) pa_nil))))), ?_⟩
    refine ⟨.ref a, rfl, .int m, rfl, m, rfl, a, ns.map V.int, rfl, hS, fun p1 n1 => ?_⟩
    refine ⟨by show 1 ≤ sizeLine; decide, fun p2 n2 => ?_⟩
    have ne : p1 ≠ p2 := fun z => by rw [← z, upd_same] at n2; cases n2
    have l1 := cut_le (us := ns.map V.int) m
    rw [List.length_map] at l1
    refine ⟨p1, p2, _, _, rfl, rfl, .inl (by rw [upd_ne ne, upd_same]), .inl upd_same, ?_, fun p3 n3 => ?_⟩
    · show (cutV (ns.map V.int) none (some m)).length + 1 ≤ sizeLine
      exact Nat.le_trans (show _ ≤ 64 by omega) (by decide)
    · refine ⟨p3, _, rfl, .inl (.inl upd_same), fun Dd hDd => ?_⟩
      refine bags_lc (K := K) 2 3 rfl (by decide) (by show 2 < 4; decide) (by show 3 < 4; decide) upd_same hDd ?_ ?_ ?_ ?_
      · rw [List.length_append]
        show (cutV (ns.map V.int) none (some m)).length + 1 ≤ 64
        omega
      · intro u hu
        rcases List.mem_append.mp hu with hu | hu
        · obtain ⟨i, _, e⟩ := List.mem_map.mp (cut_mem hu)
          exact ⟨i, e.symm⟩
        · rw [List.mem_singleton] at hu
          exact ⟨0, hu⟩
      · intro i c σ2 H2 Q2 hi e1 e2 qq
        exact ⟨.int c, e2, .int (i : Int), e1, 977, (i : Int), rfl, rfl, .inl ⟨by decide, by decide⟩, c, 977 * (i : Int), rfl, by omega, by omega, qq⟩
      · intro bs H' sm h1 nd nD ok
        exact q Dd bs H' ((same_upd n1).trans ((same_upd n2).trans ((same_upd n3).trans sm))) h1 nd nD ok

--! recursion 12
theorem sc__law_same : FnScope ["a", "b", "x", "y"] ["a", "b"] (defScope s__law_same) := ⟨rfl, rfl, rfl, by decide +kernel, rfl, by decide +kernel, by decide +kernel⟩
theorem law_same_tail {f : Addr} {cdv : Value} {A : Around} {outer : List PySem.Env} {s : Shared} {H G : Hp} {E : XK} {a b : PyData} (B : Bt mg) (h1 : (isL a && isL b || isT a && isT b) = false) :
    PSs (cxOf (L2.CX P w) P w K mg base ["a", "b", "x", "y"] "_law_same" (defScope s__law_same) f cdv A outer s H E) ((defBody s__law_same).drop 1) (tS K (fx0 H G) (fun c d _ H => E c d H) (startG 4 [a, b]) (wantP (.ok (.bool (sameD a b))))) := by
  refine ds_if (PW.pt (dw_or (dt_as (dt_b (de_isi3 "bool" "list" "tuple" (ty_bool B) (ty_list B) (ty_tuple B) (de_var 0) B.isi)) (isi_blt a)) fun _ => dw_or1 (dt_as (dt_b (de_isi3 "bool" "list" "tuple" (ty_bool B) (ty_list B) (ty_tuple B) (de_var 1) B.isi)) (isi_blt b)))) (fun h => ?_) (fun h => ?_)
  · cases ha : isB a with
    | false =>
      refine ds_ret (de_as (de_and (l := true) (de_isiB B (de_var 0)) fun h => ?_) (by rw [ha]; try rfl)) ?_
      · rw [ha] at h; cases h
      · show PyData.bool false = .bool (sameD a b)
        cases a <;> cases b <;> first | rfl | (simp [isL, isT, isB] at h h1 ha; done)
    | true =>
      obtain ⟨x, rfl⟩ : ∃ x, a = .bool x := by cases a <;> first | exact ⟨_, rfl⟩ | cases ha
      cases hb : isB b with
      | false =>
        refine ds_ret (de_as (de_and (de_isiB B (de_var 0)) fun _ => de_and (l := true) (de_isiB B (de_var 1)) fun h => ?_) (by rw [hb]; try rfl)) ?_
        · rw [hb] at h; cases h
        · show PyData.bool false = .bool (sameD (.bool x) b)
          cases b <;> first | rfl | cases hb
      | true =>
        obtain ⟨y, rfl⟩ : ∃ y, b = .bool y := by cases b <;> first | exact ⟨_, rfl⟩ | cases hb
        refine ds_ret (de_and (de_isiB B (de_var 0)) fun _ => de_and (de_isiB B (de_var 1)) fun _ => de_one (de_cmp op_eq rd_eqB (de_var 0) (de_var 1) (nomark _))) ?_
        show PyData.bool _ = .bool _
        simp [isB, sameD]
  · refine ds_skip ?_
    have hab : isB a = false ∧ isL a = false ∧ isT a = false ∧ isB b = false ∧ isL b = false ∧ isT b = false := by
      simp only [Bool.or_eq_false_iff] at h
      exact ⟨h.1.1.1, h.1.1.2, h.1.2, h.2.1.1, h.2.1.2, h.2.2⟩
    obtain ⟨a1, a2, a3, b1, b2, b3⟩ := hab
    refine ds_if (PW.pt (dw_or (dt_b (de_isiI B (de_var 0))) fun _ => dw_or1 (dt_b (de_isiI B (de_var 1))))) (fun h => ?_) (fun h => ?_)
    · cases ha : isI a with
      | false =>
        refine ds_ret (de_as (de_and (l := true) (de_isiI B (de_var 0)) fun h => ?_) (by rw [ha]; try rfl)) ?_
        · rw [ha] at h; cases h
        · show PyData.bool false = .bool (sameD a b)
          cases a <;> cases b <;> first | rfl | (simp [isL, isT, isB, isI] at h a1 a2 a3 b1 b2 b3 ha; done)
      | true =>
        obtain ⟨x, rfl⟩ : ∃ x, a = .int x := by cases a <;> first | exact ⟨_, rfl⟩ | (cases a1; done) | (cases ha; done)
        cases hb : isI b with
        | false =>
          refine ds_ret (de_as (de_and (de_isiI B (de_var 0)) fun _ => de_and (l := true) (de_isiI B (de_var 1)) fun h => ?_) (by rw [hb]; try rfl)) ?_
          · rw [hb] at h; cases h
          · show PyData.bool false = .bool (sameD (.int x) b)
            cases b <;> first | rfl | cases hb
        | true =>
          obtain ⟨y, rfl⟩ : ∃ y, b = .int y := by cases b <;> first | exact ⟨_, rfl⟩ | (cases b1; done) | (cases hb; done)
          refine ds_ret (de_and (de_isiI B (de_var 0)) fun _ => de_and (de_isiI B (de_var 1)) fun _ => de_one (de_eqI (de_var 0) (de_var 1))) ?_
          show PyData.bool _ = .bool _
          simp [isI, sameD]
    · refine ds_skip ?_
      have hI : isI a = false ∧ isI b = false := by simpa only [Bool.or_eq_false_iff] using h
      obtain ⟨a4, b4⟩ := hI
      refine ds_if (PW.pt (dw_or (dt_b (de_isiS B (de_var 0))) fun _ => dw_or1 (dt_b (de_isiS B (de_var 1))))) (fun h => ?_) (fun h => ?_)
      · cases ha : isS a with
        | false =>
          refine ds_ret (de_as (de_and (l := true) (de_isiS B (de_var 0)) fun h => ?_) (by rw [ha]; try rfl)) ?_
          · rw [ha] at h; cases h
          · show PyData.bool false = .bool (sameD a b)
            cases a <;> cases b <;> first | rfl | (simp [isL, isT, isB, isI, isS] at h a1 a2 a3 a4 b1 b2 b3 b4 ha; done)
        | true =>
          obtain ⟨x, rfl⟩ : ∃ x, a = .str x := by cases a <;> first | exact ⟨_, rfl⟩ | cases ha
          cases hb : isS b with
          | false =>
            refine ds_ret (de_as (de_and (de_isiS B (de_var 0)) fun _ => de_and (l := true) (de_isiS B (de_var 1)) fun h => ?_) (by rw [hb]; try rfl)) ?_
            · rw [hb] at h; cases h
            · show PyData.bool false = .bool (sameD (.str x) b)
              cases b <;> first | rfl | cases hb
          | true =>
            obtain ⟨y, rfl⟩ : ∃ y, b = .str y := by cases b <;> first | exact ⟨_, rfl⟩ | cases hb
            refine ds_ret (de_and (de_isiS B (de_var 0)) fun _ => de_and (de_isiS B (de_var 1)) fun _ => de_one (de_eqS (de_var 0) (de_var 1))) ?_
            show PyData.bool _ = .bool _
            simp [isS, sameD]
      · refine ds_skip (ds_ret (de_and (de_isN (de_var 0)) fun _ => de_one (de_isN (de_var 1))) ?_)
        show PyData.bool _ = .bool _
        have hS : isS a = false ∧ isS b = false := by simpa only [Bool.or_eq_false_iff] using h
        cases a <;> cases b <;> first | rfl | (simp [isL, isT, isB, isI, isS] at a1 a2 a3 a4 b1 b2 b3 b4 hS; done)
theorem c__law_same (D : Def K mg "_law_same" s__law_same ["a", "b"]) (B : Bt mg) : ∀ n : Nat, Cal P w K mg base (k + n + 1) "_law_same" ["a", "b"] (spP K (R_same n)) := by
  intro n
  induction n with
  | zero =>
    refine cal_pure D sc__law_same (fun ds r h => ?_) (by decide) (fun f cdv A outer s H G E ds r hr h => ?_)
    · obtain ⟨a, b, rfl, _⟩ := h; rfl
    · obtain ⟨a, b, rfl, ha, hb, rfl⟩ := h
      have h1 : (isL a && isL b || isT a && isT b) = false := by
        cases a <;> first | rfl | exact ha.elim
      refine ds_if (dt_as (PW.pt (dw_or (PW.pt (dw_and (dt_b (de_isiL B (de_var 0))) fun _ => dw_and1 (dt_b (de_isiL B (de_var 1))))) fun _ => dw_or1 (PW.pt (dw_and (dt_b (de_isiT B (de_var 0))) fun _ => dw_and1 (dt_b (de_isiT B (de_var 1))))))) h1) (fun h => by cases h) (fun _ => ds_skip (law_same_tail B h1))
  | succ n ih =>
    refine cal_pure D sc__law_same (fun ds r h => ?_) (by decide) (fun f cdv A outer s H G E ds r hr h => ?_)
    · obtain ⟨a, b, rfl, _⟩ := h; rfl
    · obtain ⟨a, b, rfl, ha, hb, rfl⟩ := h
      refine ds_if (PW.pt (dw_or (PW.pt (dw_and (dt_b (de_isiL B (de_var 0))) fun _ => dw_and1 (dt_b (de_isiL B (de_var 1))))) fun _ => dw_or1 (PW.pt (dw_and (dt_b (de_isiT B (de_var 0))) fun _ => dw_and1 (dt_b (de_isiT B (de_var 1))))))) (fun h => ?_) (fun h => ds_skip (law_same_tail B h))
      have alt : (∃ as bs, a = .list as ∧ b = .list bs) ∨ (∃ as bs, a = .tuple as ∧ b = .tuple bs) := by
        cases a <;> cases b <;> first | exact .inl ⟨_, _, rfl, rfl⟩ | exact .inr ⟨_, _, rfl, rfl⟩ | (simp [isL, isT] at h; done)
      rcases alt with ⟨as, bs, rfl, rfl⟩ | ⟨as, bs, rfl, rfl⟩
      · refine ds_ret (de_and (de_eqI (de_len (de_var 0) B.len) (de_len (de_var 1) B.len)) fun _ => de_one (de_all (bs := (zipD as bs).map samePair)
          (de_fz (LcR.pe (lr_mapT (own := [("x", 2), ("y", 3)]) (fun d => .bool (samePair d)) (di_zipL (da_cons (de_var 0) (da_cons (de_var 1) da_nil)) B.zip) (tgt_pair 2 3) sc__law_same.nd (blkOk_by (own := [("x", 2), ("y", 3)]) (N := ["a", "b", "x", "y"]) (sc := defScope s__law_same) (by decide +kernel))
            (fun _ _ _ _ _ => pt_pair 2 3 sc__law_same.nd) (by rw [zipD_len]; exact Nat.lt_of_le_of_lt (Nat.min_le_left _ _) ha.1) (fun d hd => by
              obtain ⟨x, y, rfl, hx, hy⟩ := zipD_mem hd
              exact ⟨_, ⟨x, y, rfl, rfl, rfl, rfl, rfl, rfl⟩, rfl, fun _ _ _ _ _ => dc ih hr (da_cons (de_var 2) (da_cons (de_var 3) da_nil)) ⟨x, y, rfl, ha.2 x hx, hb.2 y hy, rfl⟩⟩)))) B.all (by show some (PyData.list _) = _; rw [List.map_map]; rfl))) ?_
        show PyData.bool _ = .bool _
        rw [show sameD (.list as) (.list bs) = AM.sameAll as bs from by simp only [sameD], sameAll_eq, dec_cast]
      · refine ds_ret (de_and (de_eqI (de_len (de_var 0) B.len) (de_len (de_var 1) B.len)) fun _ => de_one (de_all (bs := (zipD as bs).map samePair)
          (de_fz (LcR.pe (lr_mapT (own := [("x", 2), ("y", 3)]) (fun d => .bool (samePair d)) (di_zipT (da_cons (de_var 0) (da_cons (de_var 1) da_nil)) B.zip) (tgt_pair 2 3) sc__law_same.nd (blkOk_by (own := [("x", 2), ("y", 3)]) (N := ["a", "b", "x", "y"]) (sc := defScope s__law_same) (by decide +kernel))
            (fun _ _ _ _ _ => pt_pair 2 3 sc__law_same.nd) (by rw [zipD_len]; exact Nat.lt_of_le_of_lt (Nat.min_le_left _ _) ha.1) (fun d hd => by
              obtain ⟨x, y, rfl, hx, hy⟩ := zipD_mem hd
              exact ⟨_, ⟨x, y, rfl, rfl, rfl, rfl, rfl, rfl⟩, rfl, fun _ _ _ _ _ => dc ih hr (da_cons (de_var 2) (da_cons (de_var 3) da_nil)) ⟨x, y, rfl, ha.2 x hx, hb.2 y hy, rfl⟩⟩)))) B.all (by show some (PyData.list _) = _; rw [List.map_map]; rfl))) ?_
        show PyData.bool _ = .bool _
        rw [show sameD (.tuple as) (.tuple bs) = AM.sameAll as bs from by simp only [sameD], sameAll_eq, dec_cast]

theorem sc__law_low : FnScope ["t", "b", "x", "y"] ["t", "b"] (defScope s__law_low) := ⟨rfl, rfl, rfl, by decide +kernel, rfl, by decide +kernel, by decide +kernel⟩
theorem c__law_low (D : Def K mg "_law_low" s__law_low ["t", "b"]) (B : Bt mg) : Cal P w K mg base (k + 1) "_law_low" ["t", "b"] (spP K R_low) := by
  refine cal_pure D sc__law_low (fun ds r h => ?_) (by decide) (fun f cdv A outer s H G E ds r hr h => ?_)
  · obtain ⟨a, b, rfl, _⟩ := h; rfl
  · obtain ⟨a, b, rfl, h0, hb, rfl⟩ := h
    refine ds_set 2 (de_abs (de_var 0) B.abs) (ds_set 3 (de_abs (de_var 1) B.abs) ?_ sc__law_low.nd) sc__law_low.nd
    refine ds_while (fun m Γ => ∃ x y : Nat, Γ = [.dat (.int a), .dat (.int b), .dat (.int x), .dat (.int y)] ∧ Nat.gcd x y = Int.gcd a b ∧ m = y) _ ⟨a.natAbs, b.natAbs, rfl, rfl, rfl⟩ (passes_of rfl) (fun m Γ hV => ?_)
    obtain ⟨x, y, rfl, hg, rfl⟩ := hV
    refine ⟨_, _, dt_neI (de_var 3) de_int, fun h => ?_, fun h => ?_⟩
    · have hy : (m : Int) ≠ 0 := by simpa using h
      refine ds_par 2 3 (da_cons (de_var 3) (da_cons (de_as (de_mod (de_var 2) (de_var 3) hy) (by rw [fmod_nat])) da_nil)) (ds_nil ⟨x % m, Nat.mod_lt _ (by omega), m, x % m, rfl, ?_, rfl⟩) sc__law_low.nd
      rw [← hg, Nat.gcd_comm m, ← Nat.gcd_rec, Nat.gcd_comm]
    · have hy : (m : Int) = 0 := by simpa using h
      have : m = 0 := by omega
      subst this
      rw [Nat.gcd_zero_right] at hg
      subst hg
      refine ds_cut (fun Γ => Γ = [.dat (.int a), .dat (.int b), .dat (.int (sgcd a b)), .dat (.int 0)]) (fun Γ hJ => ?_) fun tail => ?_
      · subst hJ
        have hd : ∀ i, CDivA i (sgcd a b) := fun _ => ⟨sgcd_ne h0, Nat.lt_of_le_of_lt (sgcd_abs h0) hb⟩
        exact ds_ret (de_tup (da_cons (de_fdiv (de_var 0) (de_var 2) (hd _)) (da_cons (de_fdiv (de_var 1) (de_var 2) (hd _)) da_nil)) (by simp)) rfl
      · refine ds_if (dt_lt (de_var 1) de_int) (fun h => ?_) (fun h => ?_)
        · refine ds_set 2 (de_sub de_int (de_var 2)) (ds_skip (tail _ ?_)) sc__law_low.nd
          show [Sl.dat (.int a), .dat (.int b), .dat (.int _), .dat (.int _)] = _
          unfold sgcd; rw [if_pos (by simpa using h)]; rfl
        · refine ds_skip (tail _ ?_)
          show [Sl.dat (.int a), .dat (.int b), .dat (.int _), .dat (.int _)] = _
          unfold sgcd; rw [if_neg (by simpa using h)]; rfl

theorem sc__law_int : FnScope ["bag", "way"] ["bag"] (defScope s__law_int) := ⟨rfl, rfl, rfl, by decide +kernel, rfl, by decide +kernel, by decide +kernel⟩
theorem c__law_int (D : Def K mg "_law_int" s__law_int ["bag"]) (C__law_take : Cal P w K mg base k "_law_take" ["bag", "many"] (spB K R_take)) : Cal P w K mg base (k + 1) "_law_int" ["bag"] (spB K (RB 900000000 lawInt)) := by
  refine cal_bag D sc__law_int (fun xs ds d xs' h => ?_) (by decide) (fun f cdv A outer s H G E p xs ds d xs' hr h => ?_)
  · obtain ⟨b, n, _, _, _, rfl, _⟩ := h; rfl
  · obtain ⟨b, n, ok, hn, rfl, rfl, rfl, rfl⟩ := h
    have ok1 := take_ok ok 8
    refine ds_set 1 (dcb C__law_take hr (da_cons (de_varO 0) (da_cons de_int da_nil)) (rtk 8 ok (by omega))) ?_ sc__law_int.nd
    refine ds_if (dt_lt (de_var 1) de_int) (fun h => ?_) (fun h => ?_)
    · refine ds_ret (de_sub (dcb C__law_take hr (da_cons (de_varO 0) (da_cons de_int da_nil)) (rtk 13 ok1 (by omega))) de_int) ?_
      have e : lawInt b = ((take (take b 8).2 13).1 - 6, (take (take b 8).2 13).2) := if_pos (of_decide_eq_true h)
      rw [e]; exact ⟨rfl, rfl⟩
    · refine ds_skip (ds_if (dt_lt (de_var 1) de_int) (fun h2 => ?_) (fun h2 => ?_))
      · refine ds_ret (de_sub (dcb C__law_take hr (da_cons (de_varO 0) (da_cons de_int da_nil)) (rtk 201 ok1 (by omega))) de_int) ?_
        have e : lawInt b = ((take (take b 8).2 201).1 - 100, (take (take b 8).2 201).2) := (if_neg (of_decide_eq_false h)).trans (if_pos (of_decide_eq_true h2))
        rw [e]; exact ⟨rfl, rfl⟩
      · refine ds_skip (ds_ret (de_sub (dcb C__law_take hr (da_cons (de_varO 0) (da_cons (de_add (de_mul de_int (de_pw 1000000 de_int de_int) (mulL (by decide))) de_int) da_nil)) (rtk 2000001 ok1 (by omega))) (de_pw 1000000 de_int de_int)) ?_)
        have e : lawInt b = ((take (take b 8).2 2000001).1 - 1000000, (take (take b 8).2 2000001).2) := (if_neg (of_decide_eq_false h)).trans (if_neg (of_decide_eq_false h2))
        rw [e]; exact ⟨rfl, rfl⟩

theorem sc__law_wide : FnScope ["bag", "way"] ["bag"] (defScope s__law_wide) := ⟨rfl, rfl, rfl, by decide +kernel, rfl, by decide +kernel, by decide +kernel⟩
theorem c__law_wide (D : Def K mg "_law_wide" s__law_wide ["bag"]) (C__law_take : Cal P w K mg base k "_law_take" ["bag", "many"] (spB K R_take)) (C__law_int : Cal P w K mg base k "_law_int" ["bag"] (spB K (RB 900000000 lawInt))) : Cal P w K mg base (k + 1) "_law_wide" ["bag"] (spB K (RB 800000000 lawWide)) := by
  refine cal_bag D sc__law_wide (fun xs ds d xs' h => ?_) (by decide) (fun f cdv A outer s H G E p xs ds d xs' hr h => ?_)
  · obtain ⟨b, n, _, _, _, rfl, _⟩ := h; rfl
  · obtain ⟨b, n, ok, hn, rfl, rfl, rfl, rfl⟩ := h
    have ok1 := take_ok ok 4
    refine ds_set 1 (dcb C__law_take hr (da_cons (de_varO 0) (da_cons de_int da_nil)) (rtk 4 ok (by omega))) ?_ sc__law_wide.nd
    refine ds_if (dt_lt (de_var 1) de_int) (fun h => ?_) (fun h => ?_)
    · refine ds_ret (dcb C__law_int hr (da_cons (de_varO 0) da_nil) (rb ok1 (by omega))) ?_
      have e : lawWide b = lawInt (take b 4).2 := if_pos (of_decide_eq_true h)
      rw [e]; exact ⟨rfl, rfl⟩
    · refine ds_skip (ds_if (dt_eqI (de_var 1) de_int) (fun h2 => ?_) (fun h2 => ?_))
      · refine ds_ret (de_sub (dcb C__law_take hr (da_cons (de_varO 0) (da_cons (de_add (de_mul de_int (de_pw 1000000000000000 de_int de_int) (mulL (by decide))) de_int) da_nil)) (rtk 2000000000000001 ok1 (by omega))) (de_pw 1000000000000000 de_int de_int)) ?_
        have e : lawWide b = ((take (take b 4).2 2000000000000001).1 - 1000000000000000, (take (take b 4).2 2000000000000001).2) := (if_neg (of_decide_eq_false h)).trans (if_pos (of_decide_eq_true h2))
        rw [e]; exact ⟨rfl, rfl⟩
      · have r := take_rng (take b 4).2 (m := 5) (by decide)
        refine ds_skip (ds_ret (de_ix (de_fz (dn_lst (ds := wideTab.map .int) (da_cons de_int (da_cons de_int (da_cons (de_neg de_int) (da_cons (de_pw 1000000000000000 de_int de_int) (da_cons (de_sub de_int (de_pw 1000000000000000 de_int de_int)) da_nil))))) (by decide))) (dcb C__law_take hr (da_cons (de_varO 0) (da_cons de_int da_nil)) (rtk 5 ok1 (by omega))) (tab_at (ns := wideTab) r.1 r.2)) ?_)
        have e : lawWide b = (wideTab.getD (take (take b 4).2 5).1.toNat 0, (take (take b 4).2 5).2) := (if_neg (of_decide_eq_false h)).trans (if_neg (of_decide_eq_false h2))
        rw [e]; exact ⟨rfl, rfl⟩

theorem sc__law_gcd : FnScope ["row", "found", "a"] ["row"] (defScope s__law_gcd) := ⟨rfl, rfl, rfl, by decide +kernel, rfl, by decide +kernel, by decide +kernel⟩
theorem gcdL_step (g : Nat) (ns : List Int) (i : Nat) (n : Int) (h : ns[i]? = some n) : gcdL g (ns.take (i + 1)) = Nat.gcd (gcdL g (ns.take i)) n.natAbs := by
  induction ns generalizing g i with
  | nil => cases h
  | cons a r ih =>
    cases i with
    | zero => cases h; rfl
    | succ i => exact ih _ i h
theorem c__law_gcd (D : Def K mg "_law_gcd" s__law_gcd ["row"]) (B : Bt mg) : Cal P w K mg base (k + 1) "_law_gcd" ["row"] (spP K R_gcdL) := by
  refine cal_pure D sc__law_gcd (fun ds r h => ?_) (by decide) (fun f cdv A outer s H G E ds r hr h => ?_)
  · obtain ⟨d, ns, rfl, _⟩ := h; rfl
  · obtain ⟨d, ns, rfl, hd, rfl⟩ := h
    refine ds_set 1 de_int ?_ sc__law_gcd.nd
    have hi : ∀ (X : Cx) (F : Fx) (Γ : List Sl) (tg e : Expr), PE X e (tD X.K F Γ (.dat d) Γ) → PI X tg e (tI X.K F Γ (ns.map .int) Γ) := fun X F Γ tg e h => by
      cases d with
      | list ds => cases hd; exact di_list h
      | tuple ds => cases hd; exact di_tup h
      | _ => cases hd
    refine ds_for (fun i Γ => ∃ s, Γ = [.dat d, .dat (.int (gcdL 0 (ns.take i) : Int)), s]) (hi _ _ _ _ _ (de_var 0)) (pt_name 2 sc__law_gcd.nd) ⟨_, rfl⟩ (passes_of rfl) (fun i e Γ he hV => ?_) (fun Γ hV => ?_)
    · obtain ⟨s, rfl⟩ := hV
      rw [List.getElem?_map] at he
      obtain ⟨n, hn, rfl⟩ := Option.map_eq_some_iff.mp he
      refine ⟨_, ⟨rfl, rfl, rfl⟩, ?_⟩
      refine ds_set 2 (de_abs (de_var 2) B.abs) ?_ sc__law_gcd.nd
      refine ds_while (fun m Γ => ∃ x y : Nat, Γ = [.dat d, .dat (.int x), .dat (.int y)] ∧ Nat.gcd x y = gcdL 0 (ns.take (i + 1)) ∧ m = y) _ ⟨gcdL 0 (ns.take i), n.natAbs, rfl, (gcdL_step 0 ns i n hn).symm, rfl⟩ (passes_of rfl) (fun m Γ hV => ?_)
      obtain ⟨x, y, rfl, hg, rfl⟩ := hV
      refine ⟨_, _, dt_neI (de_var 2) de_int, fun h => ?_, fun h => ?_⟩
      · have hy : (m : Int) ≠ 0 := by simpa using h
        refine ds_par 1 2 (da_cons (de_var 2) (da_cons (de_as (de_mod (de_var 1) (de_var 2) hy) (by rw [fmod_nat])) da_nil)) (ds_nil ⟨x % m, Nat.mod_lt _ (by omega), m, x % m, rfl, ?_, rfl⟩) sc__law_gcd.nd
        rw [← hg, Nat.gcd_comm m, ← Nat.gcd_rec, Nat.gcd_comm]
      · have hy : (m : Int) = 0 := by simpa using h
        have : m = 0 := by omega
        subst this
        rw [Nat.gcd_zero_right] at hg
        subst hg
        exact ds_nil ⟨_, rfl⟩
    · obtain ⟨s, rfl⟩ := hV
      refine ds_ret (de_var 1) ?_
      show PyData.int _ = .int _
      rw [List.length_map, List.take_length]

theorem sc__law_is_int : FnScope ["x"] ["x"] (defScope s__law_is_int) := ⟨rfl, rfl, rfl, by decide +kernel, rfl, by decide +kernel, by decide +kernel⟩
def R__law_is_int : List PyData → Res → Prop := fun ds r => ∃ d, ds = [d] ∧ r = .ok (.bool (isWhole d))
theorem c__law_is_int (D : Def K mg "_law_is_int" s__law_is_int ["x"]) (B : Bt mg) : Cal P w K mg base (k + 1) "_law_is_int" ["x"] (spP K R__law_is_int) := by
  refine cal_pure D sc__law_is_int (fun ds r h => ?_) (by decide) (fun f cdv A outer s H G E ds r hr h => ?_)
  · obtain ⟨d, rfl, _⟩ := h; rfl
  · obtain ⟨d, rfl, rfl⟩ := h
    refine ds_ret (de_and (de_isiI B (de_var 0)) fun _ => de_one (de_not (de_isiB B (de_var 0)))) ?_
    show PyData.bool _ = .bool _
    rw [isWhole_eq]

theorem sc__law_odd : FnScope ["bag"] ["bag"] (defScope s__law_odd) := ⟨rfl, rfl, rfl, by decide +kernel, rfl, by decide +kernel, by decide +kernel⟩
theorem c__law_odd (D : Def K mg "_law_odd" s__law_odd ["bag"]) (C__law_take : Cal P w K mg base k "_law_take" ["bag", "many"] (spB K R_take)) : Cal P w K mg base (k + 1) "_law_odd" ["bag"] (spB K (RBd 900000000 lawOdd)) := by
  refine cal_bag D sc__law_odd (fun xs ds d xs' h => ?_) (by decide) (fun f cdv A outer s H G E p xs ds d xs' hr h => ?_)
  · obtain ⟨b, n, _, _, _, rfl, _⟩ := h; rfl
  · obtain ⟨b, n, ok, hn, rfl, rfl, rfl, rfl⟩ := h
    have r := take_rng b (m := 11) (by decide)
    refine ds_ret (de_ix (de_fz (dn_lst (ds := oddTab) (da_cons de_non (da_cons de_bl (da_cons de_bl (da_cons de_str (da_cons de_str (da_cons de_nilT (da_cons (de_fz dn_nilL) (da_cons (de_tup (ds := [.int 1]) (da_cons de_int da_nil) (by decide))
      (da_cons (de_fz (dn_lst (ds := [.int 1, .int 1]) (da_cons de_int (da_cons de_int da_nil)) (by decide))) (da_cons (de_tup (ds := [.int 1, .int 1]) (da_cons de_int (da_cons de_int da_nil)) (by decide)) (da_cons (de_tup (ds := [.none, .int 1]) (da_cons de_non (da_cons de_int da_nil)) (by decide)) da_nil))))))))))) (by decide)))
      (dcb C__law_take hr (da_cons (de_varO 0) (da_cons de_int da_nil)) (rtk 11 ok (by omega))) (tabd_at (ds := oddTab) r.1 r.2)) ?_
    exact ⟨rfl, rfl⟩

--! none
theorem sc__law_ask : FnScope ["deed", "found"] ["deed"] (defScope s__law_ask) := ⟨rfl, rfl, rfl, by decide +kernel, rfl, by decide +kernel, by decide +kernel⟩
def askL (a b : Addr) : List (Value × List V) := [(.ref a, [.str "refused", .str "NoRatio"]), (.ref b, [.str "refused", .str "other"])]
theorem ask_given {X : Cx} {q : Str} (X_NoRatio : Xcl X.K X.mg "NoRatio" a_NoRatio) (X_RootError : Xcl X.K X.mg "RootError" a_RootError) (g : Addr) (cdv : Value) : LamX.GivesTo X ["deed", "found"] "_law_ask" (defScope s__law_ask) g cdv (defBody s__law_ask) "deed" q (TTask X.K (askL a_NoRatio a_RootError)) :=
  ask_gives rfl fun s H => hd_cons (l := [(.ref a_RootError, [.str "refused", .str "other"])]) ⟨rfl, by decide, .inl X_NoRatio.gC⟩ sc__law_ask.nd (hd_cons (l := []) ⟨rfl, by decide, .inl X_RootError.gC⟩ sc__law_ask.nd .nil)

theorem sc__law_is_due : FnScope ["x"] ["x"] (defScope s__law_is_due) := ⟨rfl, rfl, rfl, by decide +kernel, rfl, by decide +kernel, by decide +kernel⟩
def R__law_is_due : List PyData → Res → Prop := fun ds r => ∃ d, ds = [d] ∧ r = .ok (.bool (isRatioD d))
theorem gcdL2 (a b : Int) : gcdL 0 [a, b] = Int.gcd a b := by
  show Nat.gcd (Nat.gcd 0 a.natAbs) b.natAbs = _
  rw [Nat.gcd_zero_left]; rfl
theorem c__law_is_due (D : Def K mg "_law_is_due" s__law_is_due ["x"]) (B : Bt mg) (C__law_is_int : Cal P w K mg base k "_law_is_int" ["x"] (spP K R__law_is_int)) (C__law_gcd : Cal P w K mg base k "_law_gcd" ["row"] (spP K R_gcdL)) : Cal P w K mg base (k + 1) "_law_is_due" ["x"] (spP K R__law_is_due) := by
  refine cal_pure D sc__law_is_due (fun ds r h => ?_) (by decide) (fun f cdv A outer s H G E ds r hr h => ?_)
  · obtain ⟨d, rfl, _⟩ := h; rfl
  · obtain ⟨d, rfl, rfl⟩ := h
    cases hT : isT d with
    | false =>
      refine ds_if (k := true) (PW.pt (dw_orT (dt_as (dt_not (dt_b (de_isiT B (de_var 0)))) (by rw [hT]; rfl)))) (fun _ => ds_ret de_bl ?_) (fun h => by cases h)
      show PyData.bool false = .bool (isRatioD d)
      cases d <;> first | rfl | cases hT
    | true =>
      obtain ⟨es, rfl⟩ : ∃ es, d = .tuple es := by cases d <;> first | exact ⟨_, rfl⟩ | cases hT
      by_cases hl : es.length = 2
      · obtain ⟨a, b, rfl⟩ : ∃ a b, es = [a, b] := by
          match es, hl with
          | [a, b], _ => exact ⟨a, b, rfl⟩
        refine ds_if (PW.pt (dw_orF (dt_as (dt_not (dt_b (de_isiT B (de_var 0)))) rfl) (dw_orF (dt_as (dt_neI (de_len (de_var 0) B.len) de_int) rfl)
          (dw_or (dt_not (dt_b (dc C__law_is_int hr (da_cons (de_ix (de_var 0) de_int (d := a) rfl) da_nil) ⟨a, rfl, rfl⟩))) fun _ => dw_or1 (dt_not (dt_b (dc C__law_is_int hr (da_cons (de_ix (de_var 0) de_int (d := b) rfl) da_nil) ⟨b, rfl, rfl⟩))))))) (fun h => ds_ret de_bl ?_) (fun h => ?_)
        · show PyData.bool false = .bool (isRatioD _)
          rw [isRatioD_other]
          cases z : isWhole a with
          | false => exact .inl rfl
          | true => rw [z] at h; exact .inr (by simpa using h)
        · have ha : isWhole a = true := by cases z : isWhole a with | true => rfl | false => rw [z] at h; cases h
          have hb : isWhole b = true := by cases z : isWhole b with | true => rfl | false => rw [ha, z] at h; cases h
          obtain ⟨i, rfl⟩ : ∃ i, a = .int i := by cases a <;> first | exact ⟨_, rfl⟩ | cases ha
          obtain ⟨j, rfl⟩ : ∃ i, b = .int i := by cases b <;> first | exact ⟨_, rfl⟩ | cases hb
          refine ds_skip (ds_ret (de_and (de_gt (de_ix (de_var 0) de_int (d := .int j) rfl) de_int) fun _ => de_one (de_eqI (dc C__law_gcd hr (da_cons (de_fz (dn_list (de_var 0) B.list)) da_nil) ⟨_, [i, j], rfl, rfl, rfl⟩) de_int)) ?_)
          rw [gcdL2]; exact rfl
      · refine ds_if (k := true) (PW.pt (dw_orF (dt_as (dt_not (dt_b (de_isiT B (de_var 0)))) rfl) (dw_orT (dt_as (dt_neI (de_len (de_var 0) B.len) de_int) ?_)))) (fun _ => ds_ret de_bl ?_) (fun h => by cases h)
        · rw [decide_eq_false (by omega)]; rfl
        · show PyData.bool false = .bool (isRatioD (.tuple es))
          match es, hl with
          | [], _ => rfl
          | [a], _ => rw [isRatioD]; intro a b z; cases z
          | a :: b :: c :: r, _ => rw [isRatioD]; intro a b z; cases z
          | [a, b], hl => exact absurd rfl hl

theorem sc__law_things : FnScope ["bag", "a", "b", "c", "found", "q"] ["bag", "a", "b"] (defScope s__law_things) := ⟨rfl, rfl, rfl, by decide +kernel, rfl, by decide +kernel, by decide +kernel⟩
def things1 (c : PyData) (a b : Int) : List PyData := [.tuple [.int a, .int b], .list [.int a, .int b], .tuple [.int a, .int b, .int a], .tuple [.int a], .tuple [c, .int b], .tuple [.int a, c], c, .tuple [.int a, .int 0], .tuple [.int 0, .int b], .tuple [.int b, .int 1]]
def things2 (x y : Int) : List PyData := [.tuple [.int x, .int y], .list [.int x, .int y], .tuple [.int (0 - x), .int y], .tuple [.int x, .int (0 - y)], .tuple [.int (2 * x), .int (2 * y)]]
def things (c : PyData) (a b : Int) : List PyData := if b = 0 then things1 c a b else things1 c a b ++ things2 (lowT a b) (lowB a b)
def R_things : List PyData → List PyData → PyData → List PyData → Prop := fun xs ds d xs' => ∃ (b0 : Bag) (n a b : Int), BagOk n b0 ∧ n ≤ 800000000 ∧ b.natAbs < 2 ^ 9000 ∧ xs = bagD b0 ∧ ds = [.int a, .int b] ∧ d = .list (things (lawOdd b0).1 a b) ∧ xs' = bagD (lawOdd b0).2
theorem c__law_things (D : Def K mg "_law_things" s__law_things ["bag", "a", "b"]) (C__law_odd : Cal P w K mg base k "_law_odd" ["bag"] (spB K (RBd 900000000 lawOdd))) (C__law_low : Cal P w K mg base k "_law_low" ["t", "b"] (spP K R_low)) : Cal P w K mg base (k + 1) "_law_things" ["bag", "a", "b"] (spB K R_things) := by
  refine cal_bag D sc__law_things (fun xs ds d xs' h => ?_) (by decide) (fun f cdv A outer s H G E p xs ds d xs' hr h => ?_)
  · obtain ⟨b0, n, a, b, _, _, _, _, rfl, _⟩ := h; rfl
  · obtain ⟨b0, n, a, b, ok, hn, hb, rfl, rfl, rfl, rfl⟩ := h
    refine ds_set 3 (dcb C__law_odd hr (da_cons (de_varO 0) da_nil) (rbd ok (by omega))) ?_ sc__law_things.nd
    generalize (lawOdd b0).1 = c
    generalize (lawOdd b0).2 = b1
    refine ds_set 4 (de_fz (dn_lst (ds := things1 c a b) (da_cons (de_tup (ds := [.int a, .int b]) (da_cons (de_var 1) (da_cons (de_var 2) da_nil)) (by simp)) (da_cons (de_fz (dn_lst (ds := [.int a, .int b]) (da_cons (de_var 1) (da_cons (de_var 2) da_nil)) (by simp)))
      (da_cons (de_tup (ds := [.int a, .int b, .int a]) (da_cons (de_var 1) (da_cons (de_var 2) (da_cons (de_var 1) da_nil))) (by simp)) (da_cons (de_tup (ds := [.int a]) (da_cons (de_var 1) da_nil) (by simp)) (da_cons (de_tup (ds := [c, .int b]) (da_cons (de_var 3) (da_cons (de_var 2) da_nil)) (by simp))
      (da_cons (de_tup (ds := [.int a, c]) (da_cons (de_var 1) (da_cons (de_var 3) da_nil)) (by simp)) (da_cons (de_var 3) (da_cons (de_tup (ds := [.int a, .int 0]) (da_cons (de_var 1) (da_cons de_int da_nil)) (by simp)) (da_cons (de_tup (ds := [.int 0, .int b]) (da_cons de_int (da_cons (de_var 2) da_nil)) (by simp))
      (da_cons (de_tup (ds := [.int b, .int 1]) (da_cons (de_var 2) (da_cons de_int da_nil)) (by simp)) da_nil)))))))))) (by simp [things1]))) ?_ sc__law_things.nd
    refine ds_if (dt_neI (de_var 2) de_int) (fun h => ?_) (fun h => ?_)
    · have h0 : b ≠ 0 := by simpa using h
      refine ds_set 5 (dc C__law_low hr (da_cons (de_var 1) (da_cons (de_var 2) da_nil)) ⟨a, b, rfl, h0, hb, rfl⟩) ?_ sc__law_things.nd
      generalize e1 : lowT a b = x
      generalize e2 : lowB a b = y
      have el : lowD a b = .tuple [.int x, .int y] := by rw [← e1, ← e2]; rfl
      rw [el]
      refine ds_set 4 (de_fz (dn_cat (as := things1 c a b) (bs := things2 x y) (de_var 4) (de_fz (dn_lst (ds := things2 x y) (da_cons (de_var 5) (da_cons (de_fz (dn_lst (ds := [.int x, .int y]) (da_cons (de_ix (de_var 5) de_int (d := .int x) rfl) (da_cons (de_ix (de_var 5) de_int (d := .int y) rfl) da_nil)) (by simp)))
        (da_cons (de_tup (ds := [.int (0 - x), .int y]) (da_cons (de_sub de_int (de_ix (de_var 5) de_int (d := .int x) rfl)) (da_cons (de_ix (de_var 5) de_int (d := .int y) rfl) da_nil)) (by simp)) (da_cons (de_tup (ds := [.int x, .int (0 - y)]) (da_cons (de_ix (de_var 5) de_int (d := .int x) rfl) (da_cons (de_sub de_int (de_ix (de_var 5) de_int (d := .int y) rfl)) da_nil)) (by simp))
        (da_cons (de_tup (ds := [.int (2 * x), .int (2 * y)]) (da_cons (de_mul de_int (de_ix (de_var 5) de_int (d := .int x) rfl) (mulL (by decide))) (da_cons (de_mul de_int (de_ix (de_var 5) de_int (d := .int y) rfl) (mulL (by decide))) da_nil)) (by simp)) da_nil))))) (by simp [things2]))) (by simp [things1, things2]))) ?_ sc__law_things.nd
      refine ds_skip (ds_ret (de_var 4) ⟨?_, rfl⟩)
      unfold things; rw [if_neg h0, e1, e2]
    · have h0 : b = 0 := by simpa using h
      refine ds_skip (ds_ret (de_var 4) ⟨?_, rfl⟩)
      unfold things; rw [if_pos h0]

--! plus 2
theorem sc_law : FnScope ["script", "bag", "a", "b", "due", "c", "x", "y"] ["script"] (defScope s_law) := ⟨rfl, rfl, rfl, by decide +kernel, rfl, by decide +kernel, by decide +kernel⟩
def askD (C : Addr) (x y : PyData) : PyData := match ratioR C x y with
  | .ok d => .tuple [.str "told", d]
  | .ex _ => .tuple [.str "refused", .str "NoRatio"]
theorem pl_ref : pl 12 (.tuple [.str "refused", .str "NoRatio"]) := ⟨by simp, fun d m => by
  simp only [List.mem_cons, List.not_mem_nil, or_false] at m
  rcases m with rfl | rfl
  · exact pl_str _ _ (by decide +kernel)
  · exact pl_str _ _ (by decide +kernel)⟩
theorem pl_askD (C : Addr) (x y : PyData) : pl 12 (askD C x y) := by
  have ht : ∀ a b, pl 12 (.tuple [.str "told", lowD a b]) := fun a b => ⟨by simp, fun d m => by
    simp only [List.mem_cons, List.not_mem_nil, or_false] at m
    rcases m with rfl | rfl
    · exact pl_str _ _ (by decide +kernel)
    · exact pl_up (pl_low a b)⟩
  unfold askD
  cases z : ratioR C x y with
  | ex c => exact pl_ref
  | ok d =>
    unfold ratioR at z
    split at z
    · split at z
      · cases z
      · cases z; exact ht _ _
    · cases z
theorem c_law {f c Pt : Addr} {oc kV doc pm ct : Value} {od an : Option Addr} {osl : Array (Option Value)} (lk : K.lookup f = some ⟨oc, od, .func (PySem.W.fnOf "law" "law" (defArgs s_law) (defBody s_law) (defScope s_law) .none kV doc pm an (.ref c) ct), osl⟩) (hcd : PySem.W.codeIn K (.ref c) "law" = true) (TB : LamX.TabB base mg c Pt) (B : Bt mg)
    (X_NoRatio : Xcl K mg "NoRatio" a_NoRatio) (X_RootError : Xcl K mg "RootError" a_RootError) (E_NoRatio_NoRatio : PySem.W.exmOne K (.ref a_NoRatio) (.ref a_NoRatio) = some true) (D__law_ask : Def K mg "_law_ask" s__law_ask ["deed"])
    (C_ratio : CalV P w K mg base k "ratio" ["top", "bottom"] (spP K (R_ratio a_NoRatio)) [.int 1] 1 ["bottom"]) (C_is_ratio : Cal P w K mg base k "is_ratio" ["thing"] (spP K R_is_ratio)) (C__law_take : Cal P w K mg base k "_law_take" ["bag", "many"] (spB K R_take)) (C__law_bags : Cal P w K mg base k "_law_bags" ["script", "most"] (spBags K)) (C__law_same : Cal P w K mg base k "_law_same" ["a", "b"] (spP K (R_same 12))) (C__law_wide : Cal P w K mg base k "_law_wide" ["bag"] (spB K (RB 800000000 lawWide))) (C__law_odd : Cal P w K mg base k "_law_odd" ["bag"] (spB K (RBd 900000000 lawOdd))) (C__law_is_due : Cal P w K mg base k "_law_is_due" ["x"] (spP K R__law_is_due)) (C__law_low : Cal P w K mg base k "_law_low" ["t", "b"] (spP K R_low)) (C__law_is_int : Cal P w K mg base k "_law_is_int" ["x"] (spP K R__law_is_int)) (C__law_things : Cal P w K mg base k "_law_things" ["bag", "a", "b"] (spB K R_things)) :
    FnOk P w K mg base (L2.CX P w) (k + 3) f (PySem.W.fnOf "law" "law" (defArgs s_law) (defBody s_law) (defScope s_law) .none kV doc pm an (.ref c) ct) ["script"] (spLaw K (lawT Pt)) := by
  refine law_mkT (k := k + 2) lk hcd sc_law (fun A outer s H E hr => law_loop 1 (bags_call C__law_bags (hr.mono (by omega))) sc_law.nd rfl (passes_of rfl) (by decide) (fun H' p b ok nt => ?_))
  have hr0 := hr.mono (show k ≤ k + 2 by omega)
  refine ds_ask (ask_mk D__law_ask sc__law_ask (.inl rfl) (ask_given X_NoRatio X_RootError) TB rfl lawQ rfl rfl) fun ask => ?_
  -- a, b
  refine ds_set 2 (dcb C__law_wide hr0 (da_cons (de_varO 1) da_nil) (rb ok (by omega))) ?_ sc_law.nd
  have ra := lawWide_rng b
  have ok := lawWide_ok ok
  revert ra ok
  generalize (lawWide b).1 = a
  generalize (lawWide b).2 = b
  intro ra ok
  have rw' := lawWide_rng b
  have ok1 := lawWide_ok ok
  have rt := take_rng (lawWide b).2 (m := 30) (by decide)
  have ok2 := take_ok ok1 30
  have r2 := take_rng (take (lawWide b).2 30).2 (m := 2) (by decide)
  have ok3 := take_ok ok2 2
  refine ds_set 3 (de_ix (de_fz (dn_lst (ds := ([(lawWide b).1, 1 + (take (lawWide b).2 30).1] : List Int).map .int) (da_cons (dcb C__law_wide hr0 (da_cons (de_varO 1) da_nil) (rb ok (by omega))) (da_cons (de_add de_int (dcb C__law_take hr0 (da_cons (de_varO 1) (da_cons de_int da_nil)) (rtk 30 ok1 (by omega)))) da_nil)) (by simp)))
    (dcb C__law_take hr0 (da_cons (de_varO 1) (da_cons de_int da_nil)) (rtk 2 ok2 (by omega))) (tab_at (ns := [(lawWide b).1, 1 + (take (lawWide b).2 30).1]) r2.1 r2.2)) ?_ sc_law.nd
  have rB : -1000000000000000 ≤ ([(lawWide b).1, 1 + (take (lawWide b).2 30).1] : List Int).getD (take (take (lawWide b).2 30).2 2).1.toNat 0 ∧ ([(lawWide b).1, 1 + (take (lawWide b).2 30).1] : List Int).getD (take (take (lawWide b).2 30).2 2).1.toNat 0 ≤ 1000000000000000 := by
    refine getD_mem (q := fun z => -1000000000000000 ≤ z ∧ z ≤ 1000000000000000) (fun z hz => ?_) (by decide)
    simp only [List.mem_cons, List.not_mem_nil, or_false] at hz
    rcases hz with rfl | rfl <;> omega
  revert rB ok3
  generalize ([(lawWide b).1, 1 + (take (lawWide b).2 30).1] : List Int).getD (take (take (lawWide b).2 30).2 2).1.toNat 0 = bb
  generalize (take (take (lawWide b).2 30).2 2).2 = b
  intro ok rB
  -- the things
  refine ds_for (fun _ Γ => ∃ s, Γ = [.no, .own (bagD (lawOdd b).2), .dat (.int a), .dat (.int bb), .no, .no, s, .no]) (di_list (dcb C__law_things hr0 (da_cons (de_varO 1) (da_cons (de_var 2) (da_cons (de_var 3) da_nil))) ⟨b, _, a, bb, ok, by omega, small9 rB, rfl, rfl, rfl, rfl⟩)) (pt_name 6 sc_law.nd) ⟨_, rfl⟩ (passes_of rfl)
    (fun i d Γ hd hV => ?_) (fun Γ hV => ?_)
  · obtain ⟨s, rfl⟩ := hV
    refine ⟨_, ⟨rfl, rfl, rfl⟩, ?_⟩
    exact ds_if (dt_nsame C__law_same hr0 (dc C_is_ratio hr0 (da_cons (de_var 6) da_nil) ⟨d, rfl, rfl⟩) (dc C__law_is_due hr0 (da_cons (de_var 6) da_nil) ⟨d, rfl, rfl⟩) rfl trivial) (fun h => by cases h) (fun _ => ds_skip (ds_nil ⟨_, rfl⟩))
  obtain ⟨s, rfl⟩ := hV
  have ok := lawOdd_ok ok
  revert ok
  generalize (lawOdd b).2 = b
  intro ok
  -- c
  refine ds_set 5 (dcb C__law_odd hr0 (da_cons (de_varO 1) da_nil) (rbd ok (by omega))) ?_ sc_law.nd
  have oc := lawOdd_mem b
  revert oc
  generalize (lawOdd b).1 = c
  generalize (lawOdd b).2 = b
  intro oc
  have cw : isWhole c = false := by
    simp only [oddTab, List.mem_cons, List.not_mem_nil, or_false] at oc
    rcases oc with rfl | rfl | rfl | rfl | rfl | rfl | rfl | rfl | rfl | rfl | rfl <;> rfl
  have ni : ∀ j, c ≠ .int j := fun j z => by rw [z] at cw; cases cw
  -- ratio of all pairs
  refine ds_for (fun _ Γ => ∃ s4 s6 s7, Γ = [.no, .own (bagD b), .dat (.int a), .dat (.int bb), s4, .dat c, s6, s7]) (di_list (de_fz (dn_lst (ds := [.tuple [.int a, .int bb], .tuple [.int a, c], .tuple [c, .int bb], .tuple [.int a, .int 0], .tuple [.int 0, .int bb], .tuple [c, .int 0], .tuple [.int bb, .int a]])
    (da_cons (de_tup (ds := [.int a, .int bb]) (da_cons (de_var 2) (da_cons (de_var 3) da_nil)) (by simp)) (da_cons (de_tup (ds := [.int a, c]) (da_cons (de_var 2) (da_cons (de_var 5) da_nil)) (by simp)) (da_cons (de_tup (ds := [c, .int bb]) (da_cons (de_var 5) (da_cons (de_var 3) da_nil)) (by simp)) (da_cons (de_tup (ds := [.int a, .int 0]) (da_cons (de_var 2) (da_cons de_int da_nil)) (by simp))
      (da_cons (de_tup (ds := [.int 0, .int bb]) (da_cons de_int (da_cons (de_var 3) da_nil)) (by simp)) (da_cons (de_tup (ds := [c, .int 0]) (da_cons (de_var 5) (da_cons de_int da_nil)) (by simp)) (da_cons (de_tup (ds := [.int bb, .int a]) (da_cons (de_var 3) (da_cons (de_var 2) da_nil)) (by simp)) da_nil))))))) (by simp)))) (pg_tgt (tgt_pair 6 7) (pt_pair 6 7 sc_law.nd)) ⟨_, _, _, rfl⟩ (passes_of rfl)
    (fun i d Γ hd hV => ?_) (fun Γ hV => ?_)
  · obtain ⟨s4, s6, s7, rfl⟩ := hV
    obtain ⟨x, y, rfl, hy⟩ : ∃ x y, d = .tuple [x, y] ∧ ∀ j, y = .int j → j.natAbs < 2 ^ 9000 := by
      have := List.mem_of_getElem? hd
      simp only [List.mem_cons, List.not_mem_nil, or_false] at this
      rcases this with rfl | rfl | rfl | rfl | rfl | rfl | rfl
      · exact ⟨_, _, rfl, fun j e => by cases e; exact small9 rB⟩
      · exact ⟨_, _, rfl, fun j e => (ni j e).elim⟩
      · exact ⟨_, _, rfl, fun j e => by cases e; exact small9 rB⟩
      · exact ⟨_, _, rfl, fun j e => by cases e; exact small9 (by decide)⟩
      · exact ⟨_, _, rfl, fun j e => by cases e; exact small9 rB⟩
      · exact ⟨_, _, rfl, fun j e => by cases e; exact small9 (by decide)⟩
      · exact ⟨_, _, rfl, fun j e => by cases e; exact small9 ra⟩
    refine ⟨_, ⟨x, y, rfl, rfl, rfl, rfl, rfl, rfl⟩, ?_⟩
    refine ds_set 4 (de_tup (ds := [.str "refused", .str "NoRatio"]) (da_cons de_str (da_cons de_str da_nil)) (by decide)) ?_ sc_law.nd
    refine ds_cut (fun Γ => Γ = [.no, .own (bagD b), .dat (.int a), .dat (.int bb), .dat (askD a_NoRatio x y), .dat c, .dat x, .dat y]) (fun Γ hJ => ?_) fun tail => ?_
    · subst hJ
      refine ds_if (dt_nsame (Γ1 := [.no, .own (bagD b), .dat (.int a), .dat (.int bb), .dat (askD a_NoRatio x y), .dat c, .dat x, .dat y]) C__law_same hr0 (d := askD a_NoRatio x y) ?_ (de_var 4) rfl (pl_askD _ _ _)) (fun h => by cases h) (fun _ => ds_skip (ds_nil ⟨_, _, _, rfl⟩))
      cases z : ratioR a_NoRatio x y with
      | ok d =>
        have e : askD a_NoRatio x y = .tuple [.str "told", d] := by unfold askD; rw [z]
        rw [e]
        exact de_ask ask nt hr (LamX.lamS_by (sc := defScope s_law) (by decide +kernel)) (fun A outer s H E f c' hr' => dc C_ratio.full hr' (da_cons (de_var 6) (da_cons (de_var 7) da_nil)) ⟨x, y, rfl, hy, z.symm⟩)
      | ex C =>
        have e : askD a_NoRatio x y = .tuple [.str "refused", .str "NoRatio"] := by unfold askD; rw [z]
        have eC : C = a_NoRatio := by
          unfold ratioR at z
          split at z
          · split at z
            · cases z; rfl
            · cases z
          · cases z; rfl
        subst eC
        rw [e]
        exact de_askX ask nt hr (LamX.lamS_by (sc := defScope s_law) (by decide +kernel)) (.inl ⟨E_NoRatio_NoRatio, rfl⟩) (fun A outer s H E f c' hr' => de_callX C_ratio.full hr' (takes_of rfl rfl rfl rfl) (da_cons (de_var 6) (da_cons (de_var 7) da_nil)) ⟨x, y, rfl, hy, z.symm⟩)
    · have other : isWhole x = false ∨ isWhole y = false → askD a_NoRatio x y = .tuple [.str "refused", .str "NoRatio"] := fun h => by unfold askD; rw [ratioR_other h]
      cases hx : isWhole x with
      | false =>
        refine ds_if (k := false) (PW.pt (dw_andF (dt_as (dt_b (dc C__law_is_int hr0 (da_cons (de_var 6) da_nil) ⟨x, rfl, rfl⟩)) hx))) (fun h => by cases h) (fun _ => ds_skip (tail _ ?_))
        rw [other (.inl hx)]; rfl
      | true =>
        cases hyw : isWhole y with
        | false =>
          refine ds_if (k := false) (PW.pt (dw_andT (dt_as (dt_b (dc C__law_is_int hr0 (da_cons (de_var 6) da_nil) ⟨x, rfl, rfl⟩)) hx) (dw_andF (dt_as (dt_b (dc C__law_is_int hr0 (da_cons (de_var 7) da_nil) ⟨y, rfl, rfl⟩)) hyw)))) (fun h => by cases h) (fun _ => ds_skip (tail _ ?_))
          rw [other (.inr hyw)]; rfl
        | true =>
          obtain ⟨i, rfl⟩ : ∃ i, x = .int i := by cases x <;> first | exact ⟨_, rfl⟩ | cases hx
          obtain ⟨j, rfl⟩ : ∃ i, y = .int i := by cases y <;> first | exact ⟨_, rfl⟩ | cases hyw
          refine ds_if (PW.pt (dw_andT (dt_as (dt_b (dc C__law_is_int hr0 (da_cons (de_var 6) da_nil) ⟨_, rfl, rfl⟩)) rfl) (dw_andT (dt_as (dt_b (dc C__law_is_int hr0 (da_cons (de_var 7) da_nil) ⟨_, rfl, rfl⟩)) rfl) (dw_and1 (dt_neI (de_var 7) de_int))))) (fun h => ?_) (fun h => ?_)
          · have hj : j ≠ 0 := by simpa using h
            refine ds_set 4 (de_tup (ds := [.str "told", lowD i j]) (da_cons de_str (da_cons (dc C__law_low hr0 (da_cons (de_var 6) (da_cons (de_var 7) da_nil)) ⟨i, j, rfl, hj, hy j rfl, rfl⟩) da_nil)) (by simp)) (ds_skip (tail _ ?_)) sc_law.nd
            have : askD a_NoRatio (.int i) (.int j) = .tuple [.str "told", lowD i j] := by show (match (if j = 0 then Res.ex a_NoRatio else Res.ok (lowD i j)) with | .ok d => PyData.tuple [.str "told", d] | .ex _ => .tuple [.str "refused", .str "NoRatio"]) = _; rw [if_neg hj]
            rw [this]; rfl
          · have hj : j = 0 := by simpa using h
            refine ds_skip (tail _ ?_)
            have : askD a_NoRatio (.int i) (.int j) = .tuple [.str "refused", .str "NoRatio"] := by show (match (if j = 0 then Res.ex a_NoRatio else Res.ok (lowD i j)) with | .ok d => PyData.tuple [.str "told", d] | .ex _ => .tuple [.str "refused", .str "NoRatio"]) = _; rw [if_pos hj]
            rw [this]; rfl
  obtain ⟨s4, s6, s7, rfl⟩ := hV
  -- the top alone, by name
  have dv : ∀ G, DqAll K G [.int 1] [.int 1] := fun G => .cons (.int _) .nil
  refine ds_if (PW.pt (dw_orF (dt_nsame C__law_same hr0 (dcD C_ratio.dflt hr0 (da_cons (de_var 2) da_nil) (ds := [.int a]) (d := lowD a 1) ⟨_, _, rfl, fun j e => by cases e; exact small9 (by decide), rfl⟩ dv) (de_tup (ds := [.int a, .int 1]) (da_cons (de_var 2) (da_cons de_int da_nil)) (by simp)) (lowD_one a) (pl_up (pl_up (pl_low a 1))))
    (dw_or1 (dt_nsame C__law_same hr0 (dcK C_ratio hr0 (da_cons (de_var 2) da_nil) de_int (ds := [.int a]) (d := lowD a 7) ⟨_, _, rfl, fun j e => by cases e; exact small9 (by decide), rfl⟩ rfl rfl) (dc C__law_low hr0 (da_cons (de_var 2) (da_cons de_int da_nil)) ⟨a, 7, rfl, by decide, small9 (by decide), rfl⟩) rfl (pl_up (pl_up (pl_low a 7))))))) (fun h => by cases h) (fun _ => ds_skip ?_)
  refine ds_if (dt_nsame C__law_same hr0 (de_askX (C := a_NoRatio) ask nt hr (LamX.lamS_by (sc := defScope s_law) (by decide +kernel)) (.inl ⟨E_NoRatio_NoRatio, rfl⟩) (fun A outer s H E f c' hr' => dcDX C_ratio.dflt hr' (takes_of rfl rfl rfl rfl) (da_cons (de_var 5) da_nil) (ds := [c]) ⟨_, _, rfl, fun j e => by cases e; exact small9 (by decide), (ratioR_other (.inl cw)).symm⟩ dv)) (de_tup (ds := [.str "refused", .str "NoRatio"]) (da_cons de_str (da_cons de_str da_nil)) (by decide)) rfl pl_ref) (fun h => by cases h) (fun _ => ds_skip (ds_nil rfl))

end
end
theorem all_mk {l : PySem.W.OpenLaw} {w : World} {K : PySem.W.Frag} {h : Heap} {mg : Str → Option Value} {fa : Addr} (X : K.In h) (G : h.Ns mainGlobals mg) (hfa : mg "law" = some (.ref fa))
    {f_greatest : Addr} {od_greatest an_greatest : Option Addr} {sl_greatest : Array (Option Value)} {oc_greatest kV_greatest dc_greatest pm_greatest ct_greatest : Value} {cd_greatest : Value} (a_greatest : PySem.W.nsIn K mainGlobals "greatest" = some (some (.ref f_greatest)))
     (l_greatest : K.lookup f_greatest = some ⟨oc_greatest, od_greatest, .func (PySem.W.fnOf "greatest" "greatest" (defArgs s_greatest) (defBody s_greatest) (defScope s_greatest) .none kV_greatest dc_greatest pm_greatest an_greatest cd_greatest ct_greatest), sl_greatest⟩)
     (h_greatest : PySem.W.codeIn K cd_greatest "greatest" = true)
     (k_greatest : PySem.W.keepIn K (.ref f_greatest) = true)
    {f_is_whole : Addr} {od_is_whole an_is_whole : Option Addr} {sl_is_whole : Array (Option Value)} {oc_is_whole kV_is_whole dc_is_whole pm_is_whole ct_is_whole : Value} {cd_is_whole : Value} (a_is_whole : PySem.W.nsIn K mainGlobals "is_whole" = some (some (.ref f_is_whole)))
     (l_is_whole : K.lookup f_is_whole = some ⟨oc_is_whole, od_is_whole, .func (PySem.W.fnOf "is_whole" "is_whole" (defArgs s_is_whole) (defBody s_is_whole) (defScope s_is_whole) .none kV_is_whole dc_is_whole pm_is_whole an_is_whole cd_is_whole ct_is_whole), sl_is_whole⟩)
     (h_is_whole : PySem.W.codeIn K cd_is_whole "is_whole" = true)
     (k_is_whole : PySem.W.keepIn K (.ref f_is_whole) = true)
    {f_lowest : Addr} {od_lowest an_lowest : Option Addr} {sl_lowest : Array (Option Value)} {oc_lowest kV_lowest dc_lowest pm_lowest ct_lowest : Value} {cd_lowest : Value} (a_lowest : PySem.W.nsIn K mainGlobals "lowest" = some (some (.ref f_lowest)))
     (l_lowest : K.lookup f_lowest = some ⟨oc_lowest, od_lowest, .func (PySem.W.fnOf "lowest" "lowest" (defArgs s_lowest) (defBody s_lowest) (defScope s_lowest) .none kV_lowest dc_lowest pm_lowest an_lowest cd_lowest ct_lowest), sl_lowest⟩)
     (h_lowest : PySem.W.codeIn K cd_lowest "lowest" = true)
     (k_lowest : PySem.W.keepIn K (.ref f_lowest) = true)
    {f_ratio : Addr} {od_ratio an_ratio : Option Addr} {sl_ratio : Array (Option Value)} {oc_ratio kV_ratio dc_ratio pm_ratio ct_ratio : Value} {cd_ratio : Value} {t_ratio : Addr} {te_ratio : Value} {td_ratio : Option Addr} {tn_ratio : Nat} {ts_ratio : Array (Option Value)} {tk_ratio_0 : Tok} (a_ratio : PySem.W.nsIn K mainGlobals "ratio" = some (some (.ref f_ratio)))
     (l_ratio : K.lookup f_ratio = some ⟨oc_ratio, od_ratio, .func (PySem.W.fnOf "ratio" "ratio" (defArgs s_ratio) (defBody s_ratio) (defScope s_ratio) (.ref t_ratio) kV_ratio dc_ratio pm_ratio an_ratio cd_ratio ct_ratio), sl_ratio⟩)
     (h_ratio : PySem.W.codeIn K cd_ratio "ratio" = true)
     (k_ratio : PySem.W.keepIn K (.ref f_ratio) = true)
     (d_ratio : K.lookup t_ratio = some ⟨te_ratio, td_ratio, .seq #[.int 1 tk_ratio_0] tn_ratio, ts_ratio⟩)
    {f_is_ratio : Addr} {od_is_ratio an_is_ratio : Option Addr} {sl_is_ratio : Array (Option Value)} {oc_is_ratio kV_is_ratio dc_is_ratio pm_is_ratio ct_is_ratio : Value} {cd_is_ratio : Value} (a_is_ratio : PySem.W.nsIn K mainGlobals "is_ratio" = some (some (.ref f_is_ratio)))
     (l_is_ratio : K.lookup f_is_ratio = some ⟨oc_is_ratio, od_is_ratio, .func (PySem.W.fnOf "is_ratio" "is_ratio" (defArgs s_is_ratio) (defBody s_is_ratio) (defScope s_is_ratio) .none kV_is_ratio dc_is_ratio pm_is_ratio an_is_ratio cd_is_ratio ct_is_ratio), sl_is_ratio⟩)
     (h_is_ratio : PySem.W.codeIn K cd_is_ratio "is_ratio" = true)
     (k_is_ratio : PySem.W.keepIn K (.ref f_is_ratio) = true)
    {f__law_well : Addr} {od__law_well an__law_well : Option Addr} {sl__law_well : Array (Option Value)} {oc__law_well kV__law_well dc__law_well pm__law_well ct__law_well : Value} {cd__law_well : Value} (a__law_well : PySem.W.nsIn K mainGlobals "_law_well" = some (some (.ref f__law_well)))
     (l__law_well : K.lookup f__law_well = some ⟨oc__law_well, od__law_well, .func (PySem.W.fnOf "_law_well" "_law_well" (defArgs s__law_well) (defBody s__law_well) (defScope s__law_well) .none kV__law_well dc__law_well pm__law_well an__law_well cd__law_well ct__law_well), sl__law_well⟩)
     (h__law_well : PySem.W.codeIn K cd__law_well "_law_well" = true)
     (k__law_well : PySem.W.keepIn K (.ref f__law_well) = true)
    {f__law_take : Addr} {od__law_take an__law_take : Option Addr} {sl__law_take : Array (Option Value)} {oc__law_take kV__law_take dc__law_take pm__law_take ct__law_take : Value} {cd__law_take : Value} (a__law_take : PySem.W.nsIn K mainGlobals "_law_take" = some (some (.ref f__law_take)))
     (l__law_take : K.lookup f__law_take = some ⟨oc__law_take, od__law_take, .func (PySem.W.fnOf "_law_take" "_law_take" (defArgs s__law_take) (defBody s__law_take) (defScope s__law_take) .none kV__law_take dc__law_take pm__law_take an__law_take cd__law_take ct__law_take), sl__law_take⟩)
     (h__law_take : PySem.W.codeIn K cd__law_take "_law_take" = true)
     (k__law_take : PySem.W.keepIn K (.ref f__law_take) = true)
    {f__law_bags : Addr} {od__law_bags an__law_bags : Option Addr} {sl__law_bags : Array (Option Value)} {oc__law_bags kV__law_bags dc__law_bags pm__law_bags ct__law_bags : Value} {cd__law_bags : Value} (a__law_bags : PySem.W.nsIn K mainGlobals "_law_bags" = some (some (.ref f__law_bags)))
     (l__law_bags : K.lookup f__law_bags = some ⟨oc__law_bags, od__law_bags, .func (PySem.W.fnOf "_law_bags" "_law_bags" (defArgs s__law_bags) (defBody s__law_bags) (defScope s__law_bags) .none kV__law_bags dc__law_bags pm__law_bags an__law_bags cd__law_bags ct__law_bags), sl__law_bags⟩)
     (h__law_bags : PySem.W.codeIn K cd__law_bags "_law_bags" = true)
     (k__law_bags : PySem.W.keepIn K (.ref f__law_bags) = true)
    {f__law_same : Addr} {od__law_same an__law_same : Option Addr} {sl__law_same : Array (Option Value)} {oc__law_same kV__law_same dc__law_same pm__law_same ct__law_same : Value} {cd__law_same : Value} (a__law_same : PySem.W.nsIn K mainGlobals "_law_same" = some (some (.ref f__law_same)))
     (l__law_same : K.lookup f__law_same = some ⟨oc__law_same, od__law_same, .func (PySem.W.fnOf "_law_same" "_law_same" (defArgs s__law_same) (defBody s__law_same) (defScope s__law_same) .none kV__law_same dc__law_same pm__law_same an__law_same cd__law_same ct__law_same), sl__law_same⟩)
     (h__law_same : PySem.W.codeIn K cd__law_same "_law_same" = true)
     (k__law_same : PySem.W.keepIn K (.ref f__law_same) = true)
    {f__law_low : Addr} {od__law_low an__law_low : Option Addr} {sl__law_low : Array (Option Value)} {oc__law_low kV__law_low dc__law_low pm__law_low ct__law_low : Value} {cd__law_low : Value} (a__law_low : PySem.W.nsIn K mainGlobals "_law_low" = some (some (.ref f__law_low)))
     (l__law_low : K.lookup f__law_low = some ⟨oc__law_low, od__law_low, .func (PySem.W.fnOf "_law_low" "_law_low" (defArgs s__law_low) (defBody s__law_low) (defScope s__law_low) .none kV__law_low dc__law_low pm__law_low an__law_low cd__law_low ct__law_low), sl__law_low⟩)
     (h__law_low : PySem.W.codeIn K cd__law_low "_law_low" = true)
     (k__law_low : PySem.W.keepIn K (.ref f__law_low) = true)
    {f__law_int : Addr} {od__law_int an__law_int : Option Addr} {sl__law_int : Array (Option Value)} {oc__law_int kV__law_int dc__law_int pm__law_int ct__law_int : Value} {cd__law_int : Value} (a__law_int : PySem.W.nsIn K mainGlobals "_law_int" = some (some (.ref f__law_int)))
     (l__law_int : K.lookup f__law_int = some ⟨oc__law_int, od__law_int, .func (PySem.W.fnOf "_law_int" "_law_int" (defArgs s__law_int) (defBody s__law_int) (defScope s__law_int) .none kV__law_int dc__law_int pm__law_int an__law_int cd__law_int ct__law_int), sl__law_int⟩)
     (h__law_int : PySem.W.codeIn K cd__law_int "_law_int" = true)
     (k__law_int : PySem.W.keepIn K (.ref f__law_int) = true)
    {f__law_wide : Addr} {od__law_wide an__law_wide : Option Addr} {sl__law_wide : Array (Option Value)} {oc__law_wide kV__law_wide dc__law_wide pm__law_wide ct__law_wide : Value} {cd__law_wide : Value} (a__law_wide : PySem.W.nsIn K mainGlobals "_law_wide" = some (some (.ref f__law_wide)))
     (l__law_wide : K.lookup f__law_wide = some ⟨oc__law_wide, od__law_wide, .func (PySem.W.fnOf "_law_wide" "_law_wide" (defArgs s__law_wide) (defBody s__law_wide) (defScope s__law_wide) .none kV__law_wide dc__law_wide pm__law_wide an__law_wide cd__law_wide ct__law_wide), sl__law_wide⟩)
     (h__law_wide : PySem.W.codeIn K cd__law_wide "_law_wide" = true)
     (k__law_wide : PySem.W.keepIn K (.ref f__law_wide) = true)
    {f__law_gcd : Addr} {od__law_gcd an__law_gcd : Option Addr} {sl__law_gcd : Array (Option Value)} {oc__law_gcd kV__law_gcd dc__law_gcd pm__law_gcd ct__law_gcd : Value} {cd__law_gcd : Value} (a__law_gcd : PySem.W.nsIn K mainGlobals "_law_gcd" = some (some (.ref f__law_gcd)))
     (l__law_gcd : K.lookup f__law_gcd = some ⟨oc__law_gcd, od__law_gcd, .func (PySem.W.fnOf "_law_gcd" "_law_gcd" (defArgs s__law_gcd) (defBody s__law_gcd) (defScope s__law_gcd) .none kV__law_gcd dc__law_gcd pm__law_gcd an__law_gcd cd__law_gcd ct__law_gcd), sl__law_gcd⟩)
     (h__law_gcd : PySem.W.codeIn K cd__law_gcd "_law_gcd" = true)
     (k__law_gcd : PySem.W.keepIn K (.ref f__law_gcd) = true)
    {f__law_is_int : Addr} {od__law_is_int an__law_is_int : Option Addr} {sl__law_is_int : Array (Option Value)} {oc__law_is_int kV__law_is_int dc__law_is_int pm__law_is_int ct__law_is_int : Value} {cd__law_is_int : Value} (a__law_is_int : PySem.W.nsIn K mainGlobals "_law_is_int" = some (some (.ref f__law_is_int)))
     (l__law_is_int : K.lookup f__law_is_int = some ⟨oc__law_is_int, od__law_is_int, .func (PySem.W.fnOf "_law_is_int" "_law_is_int" (defArgs s__law_is_int) (defBody s__law_is_int) (defScope s__law_is_int) .none kV__law_is_int dc__law_is_int pm__law_is_int an__law_is_int cd__law_is_int ct__law_is_int), sl__law_is_int⟩)
     (h__law_is_int : PySem.W.codeIn K cd__law_is_int "_law_is_int" = true)
     (k__law_is_int : PySem.W.keepIn K (.ref f__law_is_int) = true)
    {f__law_odd : Addr} {od__law_odd an__law_odd : Option Addr} {sl__law_odd : Array (Option Value)} {oc__law_odd kV__law_odd dc__law_odd pm__law_odd ct__law_odd : Value} {cd__law_odd : Value} (a__law_odd : PySem.W.nsIn K mainGlobals "_law_odd" = some (some (.ref f__law_odd)))
     (l__law_odd : K.lookup f__law_odd = some ⟨oc__law_odd, od__law_odd, .func (PySem.W.fnOf "_law_odd" "_law_odd" (defArgs s__law_odd) (defBody s__law_odd) (defScope s__law_odd) .none kV__law_odd dc__law_odd pm__law_odd an__law_odd cd__law_odd ct__law_odd), sl__law_odd⟩)
     (h__law_odd : PySem.W.codeIn K cd__law_odd "_law_odd" = true)
     (k__law_odd : PySem.W.keepIn K (.ref f__law_odd) = true)
    {f__law_ask : Addr} {od__law_ask an__law_ask : Option Addr} {sl__law_ask : Array (Option Value)} {oc__law_ask kV__law_ask dc__law_ask pm__law_ask ct__law_ask : Value} {cd__law_ask : Value} (a__law_ask : PySem.W.nsIn K mainGlobals "_law_ask" = some (some (.ref f__law_ask)))
     (l__law_ask : K.lookup f__law_ask = some ⟨oc__law_ask, od__law_ask, .func (PySem.W.fnOf "_law_ask" "_law_ask" (defArgs s__law_ask) (defBody s__law_ask) (defScope s__law_ask) .none kV__law_ask dc__law_ask pm__law_ask an__law_ask cd__law_ask ct__law_ask), sl__law_ask⟩)
     (h__law_ask : PySem.W.codeIn K cd__law_ask "_law_ask" = true)
     (k__law_ask : PySem.W.keepIn K (.ref f__law_ask) = true)
    {f__law_is_due : Addr} {od__law_is_due an__law_is_due : Option Addr} {sl__law_is_due : Array (Option Value)} {oc__law_is_due kV__law_is_due dc__law_is_due pm__law_is_due ct__law_is_due : Value} {cd__law_is_due : Value} (a__law_is_due : PySem.W.nsIn K mainGlobals "_law_is_due" = some (some (.ref f__law_is_due)))
     (l__law_is_due : K.lookup f__law_is_due = some ⟨oc__law_is_due, od__law_is_due, .func (PySem.W.fnOf "_law_is_due" "_law_is_due" (defArgs s__law_is_due) (defBody s__law_is_due) (defScope s__law_is_due) .none kV__law_is_due dc__law_is_due pm__law_is_due an__law_is_due cd__law_is_due ct__law_is_due), sl__law_is_due⟩)
     (h__law_is_due : PySem.W.codeIn K cd__law_is_due "_law_is_due" = true)
     (k__law_is_due : PySem.W.keepIn K (.ref f__law_is_due) = true)
    {f__law_things : Addr} {od__law_things an__law_things : Option Addr} {sl__law_things : Array (Option Value)} {oc__law_things kV__law_things dc__law_things pm__law_things ct__law_things : Value} {cd__law_things : Value} (a__law_things : PySem.W.nsIn K mainGlobals "_law_things" = some (some (.ref f__law_things)))
     (l__law_things : K.lookup f__law_things = some ⟨oc__law_things, od__law_things, .func (PySem.W.fnOf "_law_things" "_law_things" (defArgs s__law_things) (defBody s__law_things) (defScope s__law_things) .none kV__law_things dc__law_things pm__law_things an__law_things cd__law_things ct__law_things), sl__law_things⟩)
     (h__law_things : PySem.W.codeIn K cd__law_things "_law_things" = true)
     (k__law_things : PySem.W.keepIn K (.ref f__law_things) = true)
    {f_law : Addr} {od_law an_law : Option Addr} {sl_law : Array (Option Value)} {oc_law kV_law dc_law pm_law ct_law : Value} {ca_law P_law : Addr} (a_law : PySem.W.nsIn K mainGlobals "law" = some (some (.ref f_law)))
     (l_law : K.lookup f_law = some ⟨oc_law, od_law, .func (PySem.W.fnOf "law" "law" (defArgs s_law) (defBody s_law) (defScope s_law) .none kV_law dc_law pm_law an_law (.ref ca_law) ct_law), sl_law⟩)
     (h_law : PySem.W.codeIn K (.ref ca_law) "law" = true)
     (k_law : PySem.W.keepIn K (.ref f_law) = true)
    {ce_law : Value} {cx_law : Option Addr} {cv_law : Array Value} {cs_law : Array (Option Value)} (kc_law : K.lookup ca_law = some ⟨ce_law, cx_law, .fields cv_law, cs_law⟩)
     (c11_law : cv_law[11]? = some (.ref P_law))
     (hd_law : PySem.W.codeHdIn K ca_law P_law = true)
     (np_law : K.lookup P_law = none)
     (ht_law : h.get? P_law = some { cls := .none, data := .fields #[] })
    {a_NoRatio : Addr} (xg_NoRatio : PySem.W.nsIn K mainGlobals "NoRatio" = some (some (.ref a_NoRatio)))
     (xk_NoRatio : PySem.W.keepIn K (.ref a_NoRatio) = true)
     (xq_NoRatio : PySem.W.excIn K a_NoRatio [.type "ValueError", .type "Exception", .type "BaseException", .type "object"] "ValueError.__new__" = true)
     (xs_NoRatio : PySem.W.subIn K (.ref a_NoRatio) (.type "BaseException") = some true)
     (xt_NoRatio : PySem.W.typeIn K (.ref a_NoRatio) = some (.type "type"))
    {a_RootError : Addr} (xg_RootError : PySem.W.nsIn K mainGlobals "RootError" = some (some (.ref a_RootError)))
     (xk_RootError : PySem.W.keepIn K (.ref a_RootError) = true)
     (xq_RootError : PySem.W.excIn K a_RootError [.type "ValueError", .type "Exception", .type "BaseException", .type "object"] "ValueError.__new__" = true)
     (xs_RootError : PySem.W.subIn K (.ref a_RootError) (.type "BaseException") = some true)
     (xt_RootError : PySem.W.typeIn K (.ref a_RootError) = some (.type "type"))
     (E_NoRatio_NoRatio : PySem.W.exmOne K (.ref a_NoRatio) (.ref a_NoRatio) = some true)
     (z_isi : PySem.W.nsIn K mainGlobals "isinstance" = some none)
     (z_int : PySem.W.nsIn K mainGlobals "int" = some none)
     (z_bool : PySem.W.nsIn K mainGlobals "bool" = some none)
     (z_str : PySem.W.nsIn K mainGlobals "str" = some none)
     (z_list : PySem.W.nsIn K mainGlobals "list" = some none)
     (z_tuple : PySem.W.nsIn K mainGlobals "tuple" = some none)
     (z_len : PySem.W.nsIn K mainGlobals "len" = some none)
     (z_abs : PySem.W.nsIn K mainGlobals "abs" = some none)
     (z_max : PySem.W.nsIn K mainGlobals "max" = some none)
     (z_min : PySem.W.nsIn K mainGlobals "min" = some none)
     (z_all : PySem.W.nsIn K mainGlobals "all" = some none)
     (z_any : PySem.W.nsIn K mainGlobals "any" = some none)
     (z_sum : PySem.W.nsIn K mainGlobals "sum" = some none)
     (z_range : PySem.W.nsIn K mainGlobals "range" = some none)
     (z_enum : PySem.W.nsIn K mainGlobals "enumerate" = some none)
     (z_zip : PySem.W.nsIn K mainGlobals "zip" = some none)
     (z_sorted : PySem.W.nsIn K mainGlobals "sorted" = some none)
     (z_dict : PySem.W.nsIn K mainGlobals "dict" = some none)
     (z_set : PySem.W.nsIn K mainGlobals "set" = some none)
    : LamX.LawAtS l w K (L2.CX l.prog w) 16 63 "script" mg fa h := by
  have e := hfa.symm.trans (PySem.W.mg_of X G a_law)
  cases e
  have B : Bt mg := ⟨PySem.W.mg_none_of X G z_isi, PySem.W.mg_none_of X G z_int, PySem.W.mg_none_of X G z_bool, PySem.W.mg_none_of X G z_str, PySem.W.mg_none_of X G z_list, PySem.W.mg_none_of X G z_tuple, PySem.W.mg_none_of X G z_len, PySem.W.mg_none_of X G z_abs, PySem.W.mg_none_of X G z_max, PySem.W.mg_none_of X G z_min, PySem.W.mg_none_of X G z_all, PySem.W.mg_none_of X G z_any, PySem.W.mg_none_of X G z_sum, PySem.W.mg_none_of X G z_range, PySem.W.mg_none_of X G z_enum, PySem.W.mg_none_of X G z_zip, PySem.W.mg_none_of X G z_sorted, PySem.W.mg_none_of X G z_dict, PySem.W.mg_none_of X G z_set⟩
  have F_greatest := fun_mk (st := s_greatest) l_greatest h_greatest k_greatest
  have b_greatest := F_greatest.binds (ps := ["one", "other"]) fun _ _ _ _ _ _ us hl => match us, hl with | [_, _], _ => rfl
  have D_greatest : Def K mg "greatest" s_greatest ["one", "other"] := ⟨_, _, fun_g F_greatest, PySem.W.mg_of X G a_greatest, b_greatest⟩
  have F_is_whole := fun_mk (st := s_is_whole) l_is_whole h_is_whole k_is_whole
  have b_is_whole := F_is_whole.binds (ps := ["thing"]) fun _ _ _ _ _ _ us hl => match us, hl with | [_], _ => rfl
  have D_is_whole : Def K mg "is_whole" s_is_whole ["thing"] := ⟨_, _, fun_g F_is_whole, PySem.W.mg_of X G a_is_whole, b_is_whole⟩
  have F_lowest := fun_mk (st := s_lowest) l_lowest h_lowest k_lowest
  have b_lowest := F_lowest.binds (ps := ["top", "bottom"]) fun _ _ _ _ _ _ us hl => match us, hl with | [_, _], _ => rfl
  have D_lowest : Def K mg "lowest" s_lowest ["top", "bottom"] := ⟨_, _, fun_g F_lowest, PySem.W.mg_of X G a_lowest, b_lowest⟩
  have F_ratio : FunD K "ratio" "ratio" (defArgs s_ratio) (defBody s_ratio) (defScope s_ratio) [.int 1] [] f_ratio _ := ⟨⟨_, _, _, _, _, _, _, _, _, _, rfl, l_ratio, h_ratio, .inr ⟨by simp, t_ratio, _, _, _, rfl, d_ratio, rfl, (.cons ⟨_, rfl⟩ .nil)⟩, .inl rfl⟩, k_ratio⟩
  obtain ⟨bd_ratio, bv_ratio, bb_ratio⟩ := F_ratio.binds1 (ps := ["top", "bottom"]) 1 0 (by simp) rfl (fun _ _ _ _ _ _ _ us its h1 h2 => match us, its, h1, h2 with | [_], [_], _, _ => ⟨_, rfl, rfl⟩)
  have D_ratio : DefV K mg "ratio" s_ratio ["top", "bottom"] [.int 1] 1 ["bottom"] := ⟨_, _, _, ⟨⟨_, _, _, _, _, _, _, _, _, _, rfl, l_ratio, h_ratio⟩, k_ratio⟩, PySem.W.mg_of X G a_ratio, (fun s us kin hl => match us, hl with | [_, _], _ => bindsTo_d kin d_ratio rfl ⟨_, rfl, rfl⟩), bv_ratio, bb_ratio, ⟨fun s us ws kin h1 h2 => match us, ws, h1, h2 with | [_], [_], _, _ => bindsTo_d kin d_ratio rfl ⟨_, rfl, rfl⟩, fun r1 r2 => r1.append r2⟩⟩
  have F_is_ratio := fun_mk (st := s_is_ratio) l_is_ratio h_is_ratio k_is_ratio
  have b_is_ratio := F_is_ratio.binds (ps := ["thing"]) fun _ _ _ _ _ _ us hl => match us, hl with | [_], _ => rfl
  have D_is_ratio : Def K mg "is_ratio" s_is_ratio ["thing"] := ⟨_, _, fun_g F_is_ratio, PySem.W.mg_of X G a_is_ratio, b_is_ratio⟩
  have F__law_well := fun_mk (st := s__law_well) l__law_well h__law_well k__law_well
  have b__law_well := F__law_well.binds (ps := ["cell", "turn"]) fun _ _ _ _ _ _ us hl => match us, hl with | [_, _], _ => rfl
  have D__law_well : Def K mg "_law_well" s__law_well ["cell", "turn"] := ⟨_, _, fun_g F__law_well, PySem.W.mg_of X G a__law_well, b__law_well⟩
  have F__law_take := fun_mk (st := s__law_take) l__law_take h__law_take k__law_take
  have b__law_take := F__law_take.binds (ps := ["bag", "many"]) fun _ _ _ _ _ _ us hl => match us, hl with | [_, _], _ => rfl
  have D__law_take : Def K mg "_law_take" s__law_take ["bag", "many"] := ⟨_, _, fun_g F__law_take, PySem.W.mg_of X G a__law_take, b__law_take⟩
  have F__law_bags := fun_mk (st := s__law_bags) l__law_bags h__law_bags k__law_bags
  have b__law_bags := F__law_bags.binds (ps := ["script", "most"]) fun _ _ _ _ _ _ us hl => match us, hl with | [_, _], _ => rfl
  have D__law_bags : Def K mg "_law_bags" s__law_bags ["script", "most"] := ⟨_, _, fun_g F__law_bags, PySem.W.mg_of X G a__law_bags, b__law_bags⟩
  have F__law_same := fun_mk (st := s__law_same) l__law_same h__law_same k__law_same
  have b__law_same := F__law_same.binds (ps := ["a", "b"]) fun _ _ _ _ _ _ us hl => match us, hl with | [_, _], _ => rfl
  have D__law_same : Def K mg "_law_same" s__law_same ["a", "b"] := ⟨_, _, fun_g F__law_same, PySem.W.mg_of X G a__law_same, b__law_same⟩
  have F__law_low := fun_mk (st := s__law_low) l__law_low h__law_low k__law_low
  have b__law_low := F__law_low.binds (ps := ["t", "b"]) fun _ _ _ _ _ _ us hl => match us, hl with | [_, _], _ => rfl
  have D__law_low : Def K mg "_law_low" s__law_low ["t", "b"] := ⟨_, _, fun_g F__law_low, PySem.W.mg_of X G a__law_low, b__law_low⟩
  have F__law_int := fun_mk (st := s__law_int) l__law_int h__law_int k__law_int
  have b__law_int := F__law_int.binds (ps := ["bag"]) fun _ _ _ _ _ _ us hl => match us, hl with | [_], _ => rfl
  have D__law_int : Def K mg "_law_int" s__law_int ["bag"] := ⟨_, _, fun_g F__law_int, PySem.W.mg_of X G a__law_int, b__law_int⟩
  have F__law_wide := fun_mk (st := s__law_wide) l__law_wide h__law_wide k__law_wide
  have b__law_wide := F__law_wide.binds (ps := ["bag"]) fun _ _ _ _ _ _ us hl => match us, hl with | [_], _ => rfl
  have D__law_wide : Def K mg "_law_wide" s__law_wide ["bag"] := ⟨_, _, fun_g F__law_wide, PySem.W.mg_of X G a__law_wide, b__law_wide⟩
  have F__law_gcd := fun_mk (st := s__law_gcd) l__law_gcd h__law_gcd k__law_gcd
  have b__law_gcd := F__law_gcd.binds (ps := ["row"]) fun _ _ _ _ _ _ us hl => match us, hl with | [_], _ => rfl
  have D__law_gcd : Def K mg "_law_gcd" s__law_gcd ["row"] := ⟨_, _, fun_g F__law_gcd, PySem.W.mg_of X G a__law_gcd, b__law_gcd⟩
  have F__law_is_int := fun_mk (st := s__law_is_int) l__law_is_int h__law_is_int k__law_is_int
  have b__law_is_int := F__law_is_int.binds (ps := ["x"]) fun _ _ _ _ _ _ us hl => match us, hl with | [_], _ => rfl
  have D__law_is_int : Def K mg "_law_is_int" s__law_is_int ["x"] := ⟨_, _, fun_g F__law_is_int, PySem.W.mg_of X G a__law_is_int, b__law_is_int⟩
  have F__law_odd := fun_mk (st := s__law_odd) l__law_odd h__law_odd k__law_odd
  have b__law_odd := F__law_odd.binds (ps := ["bag"]) fun _ _ _ _ _ _ us hl => match us, hl with | [_], _ => rfl
  have D__law_odd : Def K mg "_law_odd" s__law_odd ["bag"] := ⟨_, _, fun_g F__law_odd, PySem.W.mg_of X G a__law_odd, b__law_odd⟩
  have F__law_ask := fun_mk (st := s__law_ask) l__law_ask h__law_ask k__law_ask
  have b__law_ask := F__law_ask.binds (ps := ["deed"]) fun _ _ _ _ _ _ us hl => match us, hl with | [_], _ => rfl
  have D__law_ask : Def K mg "_law_ask" s__law_ask ["deed"] := ⟨_, _, fun_g F__law_ask, PySem.W.mg_of X G a__law_ask, b__law_ask⟩
  have F__law_is_due := fun_mk (st := s__law_is_due) l__law_is_due h__law_is_due k__law_is_due
  have b__law_is_due := F__law_is_due.binds (ps := ["x"]) fun _ _ _ _ _ _ us hl => match us, hl with | [_], _ => rfl
  have D__law_is_due : Def K mg "_law_is_due" s__law_is_due ["x"] := ⟨_, _, fun_g F__law_is_due, PySem.W.mg_of X G a__law_is_due, b__law_is_due⟩
  have F__law_things := fun_mk (st := s__law_things) l__law_things h__law_things k__law_things
  have b__law_things := F__law_things.binds (ps := ["bag", "a", "b"]) fun _ _ _ _ _ _ us hl => match us, hl with | [_, _, _], _ => rfl
  have D__law_things : Def K mg "_law_things" s__law_things ["bag", "a", "b"] := ⟨_, _, fun_g F__law_things, PySem.W.mg_of X G a__law_things, b__law_things⟩
  have X_NoRatio : Xcl K mg "NoRatio" a_NoRatio := ⟨PySem.W.mg_of X G xg_NoRatio, xk_NoRatio, xq_NoRatio, xs_NoRatio, xt_NoRatio⟩
  have X_RootError : Xcl K mg "RootError" a_RootError := ⟨PySem.W.mg_of X G xg_RootError, xk_RootError, xq_RootError, xs_RootError, xt_RootError⟩
  refine law_atT (c := ca_law) (Pt := P_law) (q := lawQ ++ ("<lambda>" : Str)) X l_law hd_law np_law ht_law (fun s v => .of_eq rfl) (fun base _ _ TB => ?_)
  have C_greatest := c_greatest (P := l.prog) (w := w) (base := base) (k := 0) D_greatest B
  have C_is_whole := c_is_whole (P := l.prog) (w := w) (base := base) (k := 0) D_is_whole B
  have C_lowest := c_lowest (P := l.prog) (w := w) (base := base) (k := 1) D_lowest (C_greatest.mono (by decide))
  have C_ratio := c_ratio (P := l.prog) (w := w) (base := base) (k := 2) D_ratio X_NoRatio (C_is_whole.mono (by decide)) (C_lowest.mono (by decide))
  have C_is_ratio := c_is_ratio (P := l.prog) (w := w) (base := base) (k := 1) D_is_ratio B (C_is_whole.mono (by decide)) (C_greatest.mono (by decide))
  have C__law_well := c__law_well (P := l.prog) (w := w) (base := base) (k := 0) D__law_well
  have C__law_take := c__law_take (P := l.prog) (w := w) (base := base) (k := 0) D__law_take
  have C__law_bags := c__law_bags (P := l.prog) (w := w) (base := base) (k := 1) D__law_bags B (C__law_well.mono (by decide))
  have C__law_same := c__law_same (P := l.prog) (w := w) (base := base) (k := 0) D__law_same B 12
  have C__law_low := c__law_low (P := l.prog) (w := w) (base := base) (k := 0) D__law_low B
  have C__law_int := c__law_int (P := l.prog) (w := w) (base := base) (k := 1) D__law_int (C__law_take.mono (by decide))
  have C__law_wide := c__law_wide (P := l.prog) (w := w) (base := base) (k := 2) D__law_wide (C__law_take.mono (by decide)) (C__law_int.mono (by decide))
  have C__law_gcd := c__law_gcd (P := l.prog) (w := w) (base := base) (k := 0) D__law_gcd B
  have C__law_is_int := c__law_is_int (P := l.prog) (w := w) (base := base) (k := 0) D__law_is_int B
  have C__law_odd := c__law_odd (P := l.prog) (w := w) (base := base) (k := 1) D__law_odd (C__law_take.mono (by decide))
  have C__law_is_due := c__law_is_due (P := l.prog) (w := w) (base := base) (k := 1) D__law_is_due B (C__law_is_int.mono (by decide)) (C__law_gcd.mono (by decide))
  have C__law_things := c__law_things (P := l.prog) (w := w) (base := base) (k := 2) D__law_things (C__law_odd.mono (by decide)) (C__law_low.mono (by decide))
  exact c_law (P := l.prog) (w := w) (base := base) (k := 13) l_law h_law TB B X_NoRatio X_RootError E_NoRatio_NoRatio D__law_ask (C_ratio.mono (by decide)) (C_is_ratio.mono (by decide)) (C__law_take.mono (by decide)) (C__law_bags.mono (by decide)) (C__law_same.mono (by decide)) (C__law_wide.mono (by decide)) (C__law_odd.mono (by decide)) (C__law_is_due.mono (by decide)) (C__law_low.mono (by decide)) (C__law_is_int.mono (by decide)) (C__law_things.mono (by decide))
end LW
open PySem PySem.W PyProof.Rows
set_option maxHeartbeats 0 in
theorem PySem.Challenge.cw_trueroots_k01_what_is_a_fraction_holds : PySem.Challenge.rw_trueroots_k01_what_is_a_fraction.Holds := by
  w_on; o_law; k_head; (case hw => w_witness2)
  k_fill
  refine LamX.walk_ofTs (l := PySem.Challenge.rw_trueroots_k01_what_is_a_fraction) (n := 63) (k := 16) (x := "script") (CX := fun w => L2.CX PySem.Challenge.rw_trueroots_k01_what_is_a_fraction.prog w) rfl (by decide) rfl ⟨rfl, by decide, by decide⟩ (fun w h Y => PySem.W.km_in_of Y) ?F (fun _ _ _ _ _ h => AM.cx_no h)
  case F =>
    intro w mg fa h Y KX G hmg
    refine' LW.all_mk KX G hmg ?a_greatest ?l_greatest ?h_greatest ?k_greatest ?a_is_whole ?l_is_whole ?h_is_whole ?k_is_whole ?a_lowest ?l_lowest ?h_lowest ?k_lowest ?a_ratio ?l_ratio ?h_ratio ?k_ratio ?d_ratio ?a_is_ratio ?l_is_ratio ?h_is_ratio ?k_is_ratio ?a__law_well ?l__law_well ?h__law_well ?k__law_well ?a__law_take ?l__law_take ?h__law_take ?k__law_take ?a__law_bags ?l__law_bags ?h__law_bags ?k__law_bags ?a__law_same ?l__law_same ?h__law_same ?k__law_same ?a__law_low ?l__law_low ?h__law_low ?k__law_low ?a__law_int ?l__law_int ?h__law_int ?k__law_int ?a__law_wide ?l__law_wide ?h__law_wide ?k__law_wide ?a__law_gcd ?l__law_gcd ?h__law_gcd ?k__law_gcd ?a__law_is_int ?l__law_is_int ?h__law_is_int ?k__law_is_int ?a__law_odd ?l__law_odd ?h__law_odd ?k__law_odd ?a__law_ask ?l__law_ask ?h__law_ask ?k__law_ask ?a__law_is_due ?l__law_is_due ?h__law_is_due ?k__law_is_due ?a__law_things ?l__law_things ?h__law_things ?k__law_things ?a_law ?l_law ?h_law ?k_law ?kc_law ?c11_law ?hd_law ?np_law ?ht_law ?xg_NoRatio ?xk_NoRatio ?xq_NoRatio ?xs_NoRatio ?xt_NoRatio ?xg_RootError ?xk_RootError ?xq_RootError ?xs_RootError ?xt_RootError ?E_NoRatio_NoRatio ?z_isi ?z_int ?z_bool ?z_str ?z_list ?z_tuple ?z_len ?z_abs ?z_max ?z_min ?z_all ?z_any ?z_sum ?z_range ?z_enum ?z_zip ?z_sorted ?z_dict ?z_set
    (case a_greatest => k_is)
    (case l_greatest => k_is)
    (case h_greatest => k_is)
    (case k_greatest => k_is)
    (case a_is_whole => k_is)
    (case l_is_whole => k_is)
    (case h_is_whole => k_is)
    (case k_is_whole => k_is)
    (case a_lowest => k_is)
    (case l_lowest => k_is)
    (case h_lowest => k_is)
    (case k_lowest => k_is)
    (case a_ratio => k_is)
    (case l_ratio => k_is)
    (case h_ratio => k_is)
    (case k_ratio => k_is)
    (case d_ratio => k_is)
    (case a_is_ratio => k_is)
    (case l_is_ratio => k_is)
    (case h_is_ratio => k_is)
    (case k_is_ratio => k_is)
    (case a__law_well => k_is)
    (case l__law_well => k_is)
    (case h__law_well => k_is)
    (case k__law_well => k_is)
    (case a__law_take => k_is)
    (case l__law_take => k_is)
    (case h__law_take => k_is)
    (case k__law_take => k_is)
    (case a__law_bags => k_is)
    (case l__law_bags => k_is)
    (case h__law_bags => k_is)
    (case k__law_bags => k_is)
    (case a__law_same => k_is)
    (case l__law_same => k_is)
    (case h__law_same => k_is)
    (case k__law_same => k_is)
    (case a__law_low => k_is)
    (case l__law_low => k_is)
    (case h__law_low => k_is)
    (case k__law_low => k_is)
    (case a__law_int => k_is)
    (case l__law_int => k_is)
    (case h__law_int => k_is)
    (case k__law_int => k_is)
    (case a__law_wide => k_is)
    (case l__law_wide => k_is)
    (case h__law_wide => k_is)
    (case k__law_wide => k_is)
    (case a__law_gcd => k_is)
    (case l__law_gcd => k_is)
    (case h__law_gcd => k_is)
    (case k__law_gcd => k_is)
    (case a__law_is_int => k_is)
    (case l__law_is_int => k_is)
    (case h__law_is_int => k_is)
    (case k__law_is_int => k_is)
    (case a__law_odd => k_is)
    (case l__law_odd => k_is)
    (case h__law_odd => k_is)
    (case k__law_odd => k_is)
    (case a__law_ask => k_is)
    (case l__law_ask => k_is)
    (case h__law_ask => k_is)
    (case k__law_ask => k_is)
    (case a__law_is_due => k_is)
    (case l__law_is_due => k_is)
    (case h__law_is_due => k_is)
    (case k__law_is_due => k_is)
    (case a__law_things => k_is)
    (case l__law_things => k_is)
    (case h__law_things => k_is)
    (case k__law_things => k_is)
    (case a_law => k_is)
    (case l_law => k_is)
    (case h_law => k_is)
    (case k_law => k_is)
    (case kc_law => k_is)
    (case c11_law => rfl)
    (case hd_law => kernel_rfl)
    (case np_law => kernel_rfl)
    (case ht_law => exact PySem.W.km_tabs_of Y _ (by decide))
    (case xg_NoRatio => k_is)
    (case xk_NoRatio => k_is)
    (case xq_NoRatio => k_exc)
    (case xs_NoRatio => k_is)
    (case xt_NoRatio => k_is)
    (case xg_RootError => k_is)
    (case xk_RootError => k_is)
    (case xq_RootError => k_exc)
    (case xs_RootError => k_is)
    (case xt_RootError => k_is)
    (case E_NoRatio_NoRatio => kernel_rfl)
    (case z_isi => k_is)
    (case z_int => k_is)
    (case z_bool => k_is)
    (case z_str => k_is)
    (case z_list => k_is)
    (case z_tuple => k_is)
    (case z_len => k_is)
    (case z_abs => k_is)
    (case z_max => k_is)
    (case z_min => k_is)
    (case z_all => k_is)
    (case z_any => k_is)
    (case z_sum => k_is)
    (case z_range => k_is)
    (case z_enum => k_is)
    (case z_zip => k_is)
    (case z_sorted => k_is)
    (case z_dict => k_is)
    (case z_set => k_is)
