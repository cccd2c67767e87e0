import PyProof.Rows.All
import Wide.All
import OpenK.AllK
import Wide.FinOn
import HandS.Lambda
import HandS.ForMost
import HandS.Wide
import HandS.IsInst
import HandS.TupAny
import HandS.TupMul
import HandS.Style
import HandS.Zip
import HandS.Conv
import HandS.Flow
import HandS.ForExc
import HandS.TryMany
import HandS.ExcOwn
import HandS.EndOwn
import HandS.Defaults
import HandS.CallSlots
import PyProof.ExcBaseAll.ValueError
import PyProof.FactsAll.tuple_2
import PyProof.ListMulRoad
import KE.GoesMore
import KE.KRevSl
import HandS.EndTab
import HandS.Deep
import HandS.TupLe
import HandS.More
import KE.DataCmp
import HandS.SetFor
import HandS.MakeKwOnly
import HandS.Text
import HandS.FStr
import HandS.ReplaceLit
import HandS.Codes
import HandS.ReplaceList
import PyProof.Rows.StrFirst
import PySem.Challenge.RW_trueroots_k51_whole_polynomial_texts_spo
set_option Elab.async false
set_option linter.all false
set_option maxRecDepth 100000
set_option maxHeartbeats 2000000
namespace AM
open PySem L2

inductive Sl where
  | no
  | dat (d : PyData)
  | own (xs : List PyData)
inductive Rv where
  | dat (d : PyData)
  | al (i : Nat)
def lk : List Sl → Nat → Sl
  | [], _ => .no
  | s :: _, 0 => s
  | _ :: r, n + 1 => lk r n
def st : List Sl → Nat → Sl → List Sl
  | [], _, _ => []
  | _ :: r, 0, t => t :: r
  | s :: r, n + 1, t => s :: st r n t
theorem lk_st_same : ∀ (g : List Sl) (i : Nat) (t : Sl), i < g.length → lk (st g i t) i = t
  | _ :: _, 0, _, _ => rfl
  | _ :: r, n + 1, t, h => lk_st_same r n t (Nat.lt_of_succ_lt_succ h)
theorem lk_st_ne : ∀ (g : List Sl) (i j : Nat) (t : Sl), i ≠ j → lk (st g i t) j = lk g j
  | [], _, _, _, _ => rfl
  | _ :: _, 0, 0, _, h => absurd rfl h
  | _ :: _, 0, _ + 1, _, _ => rfl
  | _ :: _, _ + 1, 0, _, _ => rfl
  | _ :: r, n + 1, m + 1, t, h => lk_st_ne r n m t (fun e => h (by rw [e]))
theorem st_length : ∀ (g : List Sl) (i : Nat) (t : Sl), (st g i t).length = g.length
  | [], _, _ => rfl
  | _ :: _, 0, _ => rfl
  | _ :: r, n + 1, t => by simp [st, st_length r n t]
theorem lk_big : ∀ (g : List Sl) (i : Nat), g.length ≤ i → lk g i = .no
  | [], _, _ => rfl
  | _ :: r, 0, h => absurd h (by simp)
  | _ :: r, n + 1, h => lk_big r n (Nat.le_of_succ_le_succ h)

def inb : List Sl → Nat → Bool
  | [], _ => false
  | _ :: _, 0 => true
  | _ :: r, n + 1 => inb r n
theorem inb_lt : ∀ {g : List Sl} {i : Nat}, inb g i = true → i < g.length
  | [], _, h => by cases h
  | _ :: r, 0, _ => by simp
  | _ :: r, n + 1, h => by
    have := inb_lt (g := r) (i := n) h
    rw [List.length_cons]; omega
mutual
inductive Dq (K : PySem.W.Frag) (H : Hp) : V → PyData → Prop
  | non : Dq K H .non .none
  | bl (b : Bool) : Dq K H (.bl b) (.bool b)
  | int (i : Int) : Dq K H (.int i) (.int i)
  | str (x : Str) : Dq K H (.str x) (.str x)
  | lst {a : Addr} {xs : List V} {ds : List PyData} : H a = some (.lst xs) → DqAll K H xs ds → Dq K H (.ref a) (.list ds)
  | tup {a : Addr} {xs : List V} {ds : List PyData} : SqT K H a xs → DqAll K H xs ds → Dq K H (.ref a) (.tuple ds)
inductive DqAll (K : PySem.W.Frag) (H : Hp) : List V → List PyData → Prop
  | nil : DqAll K H [] []
  | cons {v : V} {vs : List V} {d : PyData} {ds : List PyData} : Dq K H v d → DqAll K H vs ds → DqAll K H (v :: vs) (d :: ds)
end
section
variable {K : PySem.W.Frag} {H : Hp}
mutual
theorem dq_dp : ∀ (d : PyData) (v : V), Dq K H v d → Dp K H v d
  | .none, _, h => by cases h; exact .non
  | .bool b, _, h => by cases h; exact .bl b
  | .int i, _, h => by cases h; exact .int i
  | .str x, _, h => by cases h; exact .str x
  | .list ds, _, h => by
    cases h with
    | lst q a => exact .lst (.inl (.inl q)) (dqa_dp ds _ a)
  | .tuple ds, _, h => by
    cases h with
    | tup q a => exact .tup q (dqa_dp ds _ a)
  | .dict _, _, h => nomatch h
theorem dqa_dp : ∀ (ds : List PyData) (vs : List V), DqAll K H vs ds → DpAll K H vs ds
  | [], _, h => by cases h; exact .nil
  | d :: ds, _, h => by
    cases h with
    | cons q a => exact .cons (dq_dp d _ q) (dqa_dp ds _ a)
end
end
section
variable {K : PySem.W.Frag} {G H : Hp}
theorem rd_mono (e : Same G H) {a : Addr} {u : HO} (h : Rd G a u) : Rd H a u := by
  rcases h with h | ⟨o, h⟩
  · exact .inl (e _ _ h)
  · exact .inr ⟨o, e _ _ h⟩
theorem sqT_mono (e : Same G H) {a : Addr} {xs : List V} (h : SqT K G a xs) : SqT K H a xs := by
  rcases h with (h | ⟨o, h⟩) | h
  · exact .inl (.inl (e _ _ h))
  · exact .inl (.inr ⟨o, e _ _ h⟩)
  · exact .inr h
mutual
theorem dp_mono (e : Same G H) : ∀ (d : PyData) (v : V), Dq K G v d → Dq K H v d
  | .none, _, h => by cases h; exact .non
  | .bool b, _, h => by cases h; exact .bl b
  | .int i, _, h => by cases h; exact .int i
  | .str x, _, h => by cases h; exact .str x
  | .list ds, _, h => by
    cases h with
    | lst q a => exact .lst (e _ _ q) (dpa_mono e ds _ a)
  | .tuple ds, _, h => by
    cases h with
    | tup q a => exact .tup (sqT_mono e q) (dpa_mono e ds _ a)
  | .dict _, _, h => nomatch h
theorem dpa_mono (e : Same G H) : ∀ (ds : List PyData) (vs : List V), DqAll K G vs ds → DqAll K H vs ds
  | [], _, h => by cases h; exact .nil
  | d :: ds, _, h => by
    cases h with
    | cons q a => exact .cons (dp_mono e d _ q) (dpa_mono e ds _ a)
end
theorem dpa_len : ∀ {vs : List V} {ds : List PyData}, DqAll K G vs ds → vs.length = ds.length
  | _, _, .nil => rfl
  | _, _, .cons _ r => by simp [dpa_len r]
theorem dpa_get : ∀ {vs : List V} {ds : List PyData} {i : Nat} {d : PyData}, DqAll K G vs ds → ds[i]? = some d → ∃ v, vs[i]? = some v ∧ Dq K G v d
  | _, _, _, _, .nil, e => by simp at e
  | _, _, 0, _, .cons q _, e => by simp at e; subst e; exact ⟨_, rfl, q⟩
  | _, _, i + 1, d, .cons _ r, e => by
    obtain ⟨v, h1, h2⟩ := dpa_get (i := i) (d := d) r (by simpa using e)
    exact ⟨v, by simpa using h1, h2⟩
theorem dpa_get' : ∀ {vs : List V} {ds : List PyData} {i : Nat} {v : V}, DqAll K G vs ds → vs[i]? = some v → ∃ d, ds[i]? = some d ∧ Dq K G v d
  | _, _, _, _, .nil, e => by simp at e
  | _, _, 0, _, .cons q _, e => by simp at e; subst e; exact ⟨_, rfl, q⟩
  | _, _, i + 1, v, .cons _ r, e => by
    obtain ⟨d, h1, h2⟩ := dpa_get' (i := i) (v := v) r (by simpa using e)
    exact ⟨d, by simpa using h1, h2⟩
theorem dpa_app : ∀ {vs ws : List V} {ds es : List PyData}, DqAll K G vs ds → DqAll K G ws es → DqAll K G (vs ++ ws) (ds ++ es)
  | _, _, _, _, .nil, s => s
  | _, _, _, _, .cons q r, s => .cons q (dpa_app r s)
theorem dpa_set : ∀ {vs : List V} {ds : List PyData} (i : Nat) {v : V} {d : PyData}, DqAll K G vs ds → Dq K G v d → DqAll K G (vs.set i v) (ds.set i d)
  | _, _, _, _, _, .nil, _ => .nil
  | _, _, 0, _, _, .cons _ r, q => .cons q r
  | _, _, i + 1, _, _, .cons p r, q => .cons p (dpa_set i r q)
theorem dpa_take : ∀ {vs : List V} {ds : List PyData} (n : Nat), DqAll K G vs ds → DqAll K G (vs.take n) (ds.take n)
  | _, _, 0, _ => .nil
  | _, _, _ + 1, .nil => .nil
  | _, _, n + 1, .cons q r => .cons q (dpa_take n r)
theorem dpa_drop : ∀ {vs : List V} {ds : List PyData} (n : Nat), DqAll K G vs ds → DqAll K G (vs.drop n) (ds.drop n)
  | _, _, 0, r => r
  | _, _, _ + 1, .nil => .nil
  | _, _, n + 1, .cons _ r => dpa_drop n r
theorem dpa_rev : ∀ {vs : List V} {ds : List PyData}, DqAll K G vs ds → DqAll K G vs.reverse ds.reverse
  | _, _, .nil => .nil
  | _, _, .cons q r => by
    rw [List.reverse_cons, List.reverse_cons]
    exact dpa_app (dpa_rev r) (.cons q .nil)
theorem dpa_rep : ∀ (n : Nat) {v : V} {d : PyData}, Dq K G v d → DqAll K G (List.replicate n v) (List.replicate n d)
  | 0, _, _, _ => .nil
  | n + 1, _, _, q => .cons q (dpa_rep n q)
theorem dp_int {v : V} {i : Int} (h : Dq K G v (.int i)) : v = .int i := by cases h; rfl
theorem dp_bl {v : V} {b : Bool} (h : Dq K G v (.bool b)) : v = .bl b := by cases h; rfl
theorem dp_str {v : V} {x : Str} (h : Dq K G v (.str x)) : v = .str x := by cases h; rfl
theorem dp_non {v : V} (h : Dq K G v .none) : v = .non := by cases h; rfl
theorem dp_tup {v : V} {ds : List PyData} (h : Dq K G v (.tuple ds)) : ∃ a xs, v = .ref a ∧ SqT K G a xs ∧ DqAll K G xs ds := by
  cases h with
  | tup q a => exact ⟨_, _, rfl, q, a⟩
theorem dp_lst {v : V} {ds : List PyData} (h : Dq K G v (.list ds)) : ∃ a xs, v = .ref a ∧ G a = some (.lst xs) ∧ DqAll K G xs ds := by
  cases h with
  | lst q a => exact ⟨_, _, rfl, q, a⟩
theorem dpa_ints : ∀ {vs : List V} {ns : List Int}, DqAll K G vs (ns.map .int) → vs = ns.map V.int
  | _, [], h => by cases h; rfl
  | _, n :: ns, h => by
    cases h with
    | cons q r => rw [dp_int q, dpa_ints r]; rfl
theorem dpa_of_ints : ∀ (ns : List Int), DqAll K G (ns.map V.int) (ns.map .int)
  | [] => .nil
  | n :: ns => .cons (.int n) (dpa_of_ints ns)
theorem dpa_bls : ∀ {vs : List V} {bs : List Bool}, DqAll K G vs (bs.map .bool) → vs = bs.map V.bl
  | _, [], h => by cases h; rfl
  | _, n :: ns, h => by
    cases h with
    | cons q r => rw [dp_bl q, dpa_bls r]; rfl
end
theorem same_upd {H : Hp} {p : Addr} {o : HO} (h : H p = none) : Same H (upd H p o) := fun b x e => by
  rw [upd_ne (ne_of_none e h)]
  exact e

structure Fx where
  B : List (Nat × Addr)
  H0 : Hp
  G0 : Hp
  T : List (Addr × Str)
def Fx.M (F : Fx) (a : Addr) : Prop := (∃ i, (i, a) ∈ F.B) ∨ ∃ q, (a, q) ∈ F.T
def NoTb (o : HO) : Prop := ∀ ps, o ≠ .tbl ps
def NT (G : Hp) : Prop := ∀ a o, G a = some o → NoTb o
theorem noTb_lst {vs : List V} : NoTb (.lst vs) := fun _ z => by cases z
theorem NT.upd {G : Hp} {p : Addr} {o : HO} (h : NT G) (ho : NoTb o) : NT (upd G p o) := fun a u e => by
  by_cases q : a = p
  · subst q; rw [upd_same] at e; cases e; exact ho
  · rw [upd_ne q] at e; exact h a u e
def pf (F : Fx) (i : Nat) : Bool := F.B.all fun q => q.1 != i
theorem pf_ne {F : Fx} {i : Nat} (h : pf F i = true) : ∀ q ∈ F.B, q.1 ≠ i := fun q hq => by
  have := List.all_eq_true.mp h q hq
  simpa using this
def SlOk (K : PySem.W.Frag) (F : Fx) (G H : Hp) : Sl → Option (Option V) → Prop
  | .no, _ => True
  | .dat d, o => ∃ v, o = some (some v) ∧ Dq K G v d
  | .own xs, o => ∃ p vs, o = some (some (.ref p)) ∧ G p = none ∧ H p = some (.lst vs) ∧ DqAll K G vs xs ∧ (F.M p ∨ F.H0 p = none)
def Own (σ : L2.St) (Γ : List Sl) (a : Addr) : Prop := ∃ i xs, lk Γ i = .own xs ∧ σ[i]? = some (some (.ref a))
structure En (K : PySem.W.Frag) (F : Fx) (G : Hp) (σ : L2.St) (H : Hp) (Γ : List Sl) : Prop where
  le : Same G H
  g0 : Same F.G0 G
  fr : ∀ a o, G a = some o → (∃ o', F.G0 a = some o') ∨ F.H0 a = none
  base : ∀ a o, ¬ F.M a → F.H0 a = some o → H a = some o
  mu : ∀ a, F.M a → ∃ o, H a = some o
  sl : ∀ i, SlOk K F G H (lk Γ i) σ[i]?
  nd : ∀ i j p xs ys, lk Γ i = .own xs → lk Γ j = .own ys → σ[i]? = some (some (.ref p)) → σ[j]? = some (some (.ref p)) → i = j
  len : σ.length = Γ.length
  pin : ∀ q ∈ F.B, σ[q.1]? = some (some (.ref q.2)) ∧ ∃ xs, lk Γ q.1 = .own xs
  tab : LamX.Tabs F.T H
  nt : NT G
theorem tabs_keep {T : List (Addr × Str)} {H H' : Hp} (t : LamX.Tabs T H) (k : ∀ a o, H a = some o → (∀ vs, o ≠ .lst vs) → H' a = some o) : LamX.Tabs T H' := fun p hp => by
  obtain ⟨ps, h1, h2, h3⟩ := t p hp
  refine ⟨ps, k _ _ h1 (fun vs z => by cases z), h2, fun pos cv hc => ?_⟩
  obtain ⟨c, e1, e2⟩ := h3 pos cv hc
  exact ⟨c, e1, k _ _ e2 (fun vs z => by unfold LamX.CodeO at z; cases z)⟩
theorem tabs_write {T : List (Addr × Str)} {H : Hp} {p : Addr} {us : List V} {o : HO} (t : LamX.Tabs T H) (hp : H p = some (.lst us)) : LamX.Tabs T (upd H p o) := tabs_keep t fun a u h n => by
  rw [upd_ne (fun z => n us (by rw [z, hp] at h; exact (Option.some.inj h).symm))]
  exact h
theorem tabs_ne {T : List (Addr × Str)} {H : Hp} {p : Addr} {us : List V} (t : LamX.Tabs T H) (hp : H p = some (.lst us)) : ¬ ∃ q, (p, q) ∈ T := fun ⟨q, hq⟩ => by
  obtain ⟨ps, h1, _⟩ := t _ hq
  have h1 : H p = _ := h1
  rw [hp] at h1
  cases h1
def Nl (H : Hp) (a : Addr) : Prop := ∀ vs, H a ≠ some (.lst vs)
theorem Nl.none {H : Hp} {a : Addr} (h : H a = none) : Nl H a := fun vs e => by rw [h] at e; cases e
structure Step (σ : L2.St) (Γ Γ' : List Sl) (G H G' H' : Hp) : Prop where
  g : Same G G'
  f : ∀ a o, G' a = some o → (∃ o', G a = some o') ∨ Nl H a
  k : ∀ a o, H a = some o → ¬ Own σ Γ a → NoTb o → H' a = some o
  o : ∀ a, Own σ Γ' a → Own σ Γ a
  s : ∀ a vs, H a = some (.lst vs) → ∃ vs', H' a = some (.lst vs')
theorem Step.nl {σ : L2.St} {Γ Γ' : List Sl} {G H G' H' : Hp} (s : Step σ Γ Γ' G H G' H') {a : Addr} (h : Nl H' a) : Nl H a := fun vs e => by
  obtain ⟨vs', e'⟩ := s.s a vs e
  exact h vs' e'
def Fre (F : Fx) (H : Hp) (p : Addr) : Prop := Nl H p ∧ F.H0 p = none
theorem Fre.back {F : Fx} {σ : L2.St} {Γ Γ' : List Sl} {G H G' H' : Hp} {p : Addr} (h : Fre F H' p) (s : Step σ Γ Γ' G H G' H') : Fre F H p := ⟨s.nl h.1, h.2⟩
def VR (K : PySem.W.Frag) (G : Hp) (σ : L2.St) (v : V) : Rv → Prop
  | .dat d => Dq K G v d
  | .al i => σ[i]? = some (some v)
def tD (K : PySem.W.Frag) (F : Fx) (Γ : List Sl) (r : Rv) (Γ' : List Sl) : TE := fun σ H Q => ∃ G, En K F G σ H Γ ∧
  ∀ v H' G', Step σ Γ Γ' G H G' H' → En K F G' σ H' Γ' → VR K G' σ v r → Q v H'
def tN (K : PySem.W.Frag) (F : Fx) (Γ : List Sl) (xs : List PyData) (Γ' : List Sl) : TE := fun σ H Q => ∃ G, En K F G σ H Γ ∧
  ∀ p vs H' G', Step σ Γ Γ' G H G' H' → En K F G' σ H' Γ' → Fre F H p → G' p = none → H' p = some (.lst vs) → DqAll K G' vs xs → Q (.ref p) H'
def tDT (K : PySem.W.Frag) (F : Fx) (Γ : List Sl) (b : Bool) (Γ' : List Sl) : TT := fun σ H Q => ∃ G, En K F G σ H Γ ∧
  ∀ H' G', Step σ Γ Γ' G H G' H' → En K F G' σ H' Γ' → Q b H'
def tDA (K : PySem.W.Frag) (F : Fx) (Γ : List Sl) (rs : List Rv) (Γ' : List Sl) : TA := fun σ H Q => ∃ G, En K F G σ H Γ ∧
  ∀ vs H' G', Step σ Γ Γ' G H G' H' → En K F G' σ H' Γ' → Paired (fun v r => VR K G' σ v r) vs rs → Q vs H'
def vwS : Sl → Option PyData
  | .own xs => some (.list xs)
  | .dat d => some d
  | .no => none
def vw (Γ : List Sl) : Rv → Option PyData
  | .dat d => some d
  | .al i => vwS (lk Γ i)
section
variable {K : PySem.W.Frag} {F : Fx} {σ : L2.St} {Γ Γ1 Γ2 : List Sl} {G H G1 H1 G2 H2 : Hp}
theorem Step.refl : Step σ Γ Γ G H G H := ⟨fun _ _ h => h, fun a o h => .inl ⟨o, h⟩, fun _ _ h _ _ => h, fun _ h => h, fun _ vs h => ⟨vs, h⟩⟩
theorem Step.trans (a : Step σ Γ Γ1 G H G1 H1) (b : Step σ Γ1 Γ2 G1 H1 G2 H2) : Step σ Γ Γ2 G H G2 H2 where
  g := fun x o h => b.g x o (a.g x o h)
  f := fun x o h => by
    rcases b.f x o h with ⟨o', h'⟩ | h'
    · exact a.f x o' h'
    · exact .inr (a.nl h')
  k := fun x o h n t => b.k x o (a.k x o h n t) (fun z => n (a.o x z)) t
  o := fun x h => a.o x (b.o x h)
  s := fun x vs h => by
    obtain ⟨vs', h'⟩ := a.s x vs h
    exact b.s x vs' h'
theorem VR.mono {v : V} {r : Rv} (e : Same G G1) (h : VR K G σ v r) : VR K G1 σ v r := by
  cases r with
  | dat d => exact dp_mono e d v h
  | al i => exact h
theorem En.no (E : En K F G σ H Γ) {p : Addr} (h : H p = none) : F.H0 p = none ∧ ¬ F.M p ∧ G p = none := by
  have nm : ¬ F.M p := fun z => by
    obtain ⟨o, e⟩ := E.mu p z
    rw [h] at e; cases e
  refine ⟨?_, nm, ?_⟩
  · cases q : F.H0 p with
    | none => rfl
    | some o =>
      have := E.base p o nm q
      rw [h] at this; cases this
  · cases q : G p with
    | none => rfl
    | some o =>
      have := E.le p o q
      rw [h] at this; cases this
theorem En.own (E : En K F G σ H Γ) {a : Addr} (h : Own σ Γ a) : G a = none ∧ ∃ vs, H a = some (.lst vs) := by
  obtain ⟨i, xs, e, es⟩ := h
  have s := E.sl i
  rw [e] at s
  obtain ⟨p, vs, e1, g, hp, _⟩ := s
  rw [es] at e1
  cases e1
  exact ⟨g, vs, hp⟩
theorem En.view (E : En K F G σ H Γ) {v : V} {r : Rv} {d : PyData} (h : VR K G σ v r) (e : vw Γ r = some d) : Dq K H v d := by
  cases r with
  | dat d' =>
    have : d' = d := Option.some.inj e
    subst this
    exact dp_mono E.le _ v h
  | al i =>
    have s := E.sl i
    have h : σ[i]? = some (some v) := h
    have e : vwS (lk Γ i) = some d := e
    cases q : lk Γ i with
    | no => rw [q] at e; cases e
    | dat d' =>
      rw [q] at e s
      have : d' = d := Option.some.inj e
      subst this
      obtain ⟨v', e1, hd⟩ := s
      rw [h] at e1
      cases e1
      exact dp_mono E.le _ _ hd
    | own xs =>
      rw [q] at e s
      have : PyData.list xs = d := Option.some.inj e
      subst this
      obtain ⟨p, vs, e1, g, hp, ha, _⟩ := s
      rw [h] at e1
      cases e1
      exact .lst hp (dpa_mono E.le _ _ ha)
theorem En.newDat (E : En K F G σ H Γ) {p : Addr} {o : HO} (h : H p = none) (ho : NoTb o := by intro _ z; cases z) : En K F (upd G p o) σ (upd H p o) Γ where
  le := fun a u e => by
    by_cases q : a = p
    · subst q; rw [upd_same] at e ⊢; exact e
    · rw [upd_ne q] at e ⊢; exact E.le a u e
  g0 := fun a u e => by
    have := E.g0 a u e
    rw [upd_ne (ne_of_none this (E.no h).2.2)]
    exact this
  fr := fun a u e => by
    by_cases q : a = p
    · subst q; exact .inr (E.no h).1
    · rw [upd_ne q] at e; exact E.fr a u e
  base := fun a u n e => by
    have := E.base a u n e
    rw [upd_ne (ne_of_none this h)]
    exact this
  mu := fun a m => by
    obtain ⟨u, e⟩ := E.mu a m
    exact ⟨u, by rw [upd_ne (ne_of_none e h)]; exact e⟩
  sl := fun i => by
    have s := E.sl i
    have sg : Same G (upd G p o) := same_upd (E.no h).2.2
    cases q : lk Γ i with
    | no => trivial
    | dat d =>
      rw [q] at s
      obtain ⟨v, e, hd⟩ := s
      exact ⟨v, e, dp_mono sg _ _ hd⟩
    | own xs =>
      rw [q] at s
      obtain ⟨a, vs, e, g, hp, ha, hm⟩ := s
      have ne : a ≠ p := ne_of_none hp h
      exact ⟨a, vs, e, by rw [upd_ne ne]; exact g, by rw [upd_ne ne]; exact hp, dpa_mono sg _ _ ha, hm⟩
  nd := E.nd
  len := E.len
  pin := E.pin
  tab := E.tab.ext (same_upd h)
  nt := E.nt.upd ho
theorem En.newRaw (E : En K F G σ H Γ) {p : Addr} {o : HO} (h : H p = none) : En K F G σ (upd H p o) Γ where
  le := fun a u e => by
    have := E.le a u e
    rw [upd_ne (ne_of_none this h)]; exact this
  g0 := E.g0
  fr := E.fr
  base := fun a u n e => by
    have := E.base a u n e
    rw [upd_ne (ne_of_none this h)]
    exact this
  mu := fun a m => by
    obtain ⟨u, e⟩ := E.mu a m
    exact ⟨u, by rw [upd_ne (ne_of_none e h)]; exact e⟩
  sl := fun i => by
    have s := E.sl i
    cases q : lk Γ i with
    | no => trivial
    | dat d => rw [q] at s; exact s
    | own xs =>
      rw [q] at s
      obtain ⟨a, vs, e, g, hp, ha, hm⟩ := s
      have ne : a ≠ p := ne_of_none hp h
      exact ⟨a, vs, e, g, by rw [upd_ne ne]; exact hp, ha, hm⟩
  nd := E.nd
  len := E.len
  pin := E.pin
  tab := E.tab.ext (same_upd h)
  nt := E.nt
theorem Step.newDat {p : Addr} {o : HO} (h : H p = none) (g : G p = none) : Step σ Γ Γ G H (upd G p o) (upd H p o) where
  g := same_upd g
  f := fun a u e => by
    by_cases q : a = p
    · subst q; exact .inr (.none h)
    · rw [upd_ne q] at e; exact .inl ⟨u, e⟩
  k := fun a u e _ _ => by rw [upd_ne (ne_of_none e h)]; exact e
  o := fun _ z => z
  s := fun a vs e => ⟨vs, by rw [upd_ne (ne_of_none e h)]; exact e⟩
theorem Step.newRaw {p : Addr} {o : HO} (h : H p = none) : Step σ Γ Γ G H G (upd H p o) where
  g := fun _ _ e => e
  f := fun a u e => .inl ⟨u, e⟩
  k := fun a u e _ _ => by rw [upd_ne (ne_of_none e h)]; exact e
  o := fun _ z => z
  s := fun a vs e => ⟨vs, by rw [upd_ne (ne_of_none e h)]; exact e⟩
theorem En.freeze (E : En K F G σ H Γ) {p : Addr} {o : HO} (h : H p = some o) (g : G p = none) (n : ¬ Own σ Γ p) (h0 : F.H0 p = none) (ho : NoTb o := by intro _ z; cases z) : En K F (upd G p o) σ H Γ where
  le := fun a u e => by
    by_cases q : a = p
    · subst q; rw [upd_same] at e; cases e; exact h
    · rw [upd_ne q] at e; exact E.le a u e
  g0 := fun a u e => by
    have := E.g0 a u e
    rw [upd_ne (ne_of_none this g)]
    exact this
  fr := fun a u e => by
    by_cases q : a = p
    · subst q; exact .inr h0
    · rw [upd_ne q] at e; exact E.fr a u e
  base := E.base
  mu := E.mu
  sl := fun i => by
    have s := E.sl i
    have sg : Same G (upd G p o) := same_upd g
    cases q : lk Γ i with
    | no => trivial
    | dat d =>
      rw [q] at s
      obtain ⟨v, e, hd⟩ := s
      exact ⟨v, e, dp_mono sg _ _ hd⟩
    | own xs =>
      rw [q] at s
      obtain ⟨a, vs, e, g, hp, ha, hm⟩ := s
      have ne : a ≠ p := fun z => n (by rw [← z]; exact ⟨i, xs, q, e⟩)
      exact ⟨a, vs, e, by rw [upd_ne ne]; exact g, hp, dpa_mono sg _ _ ha, hm⟩
  nd := E.nd
  len := E.len
  pin := E.pin
  tab := E.tab
  nt := E.nt.upd ho
theorem En.setDat (E : En K F G σ H Γ) {i : Nat} {v : V} {d : PyData} (h : Dq K G v d) (hi : i < Γ.length) (hb : pf F i = true) : En K F G (σ.set i (some v)) H (st Γ i (.dat d)) where
  le := E.le
  g0 := E.g0
  fr := E.fr
  base := E.base
  mu := E.mu
  sl := fun j => by
    by_cases q : i = j
    · subst q
      rw [lk_st_same _ _ _ hi, List.getElem?_set_self (by rw [E.len]; exact hi)]
      exact ⟨v, rfl, h⟩
    · rw [lk_st_ne _ _ _ _ q, List.getElem?_set_ne q]
      exact E.sl j
  nd := fun a b p xs ys e1 e2 e3 e4 => by
    by_cases qa : i = a
    · subst qa; rw [lk_st_same _ _ _ hi] at e1; cases e1
    · by_cases qb : i = b
      · subst qb; rw [lk_st_same _ _ _ hi] at e2; cases e2
      · rw [lk_st_ne _ _ _ _ qa] at e1
        rw [lk_st_ne _ _ _ _ qb] at e2
        rw [List.getElem?_set_ne qa] at e3
        rw [List.getElem?_set_ne qb] at e4
        exact E.nd a b p xs ys e1 e2 e3 e4
  len := by rw [List.length_set, st_length]; exact E.len
  pin := fun q hq => by
    have ne := pf_ne hb q hq
    rw [List.getElem?_set_ne (Ne.symm ne), lk_st_ne _ _ _ _ (Ne.symm ne)]
    exact E.pin q hq
  tab := E.tab
  nt := E.nt
theorem En.setOwn (E : En K F G σ H Γ) {i : Nat} {p : Addr} {vs : List V} {xs : List PyData} (hi : i < Γ.length) (h : H p = some (.lst vs)) (g : G p = none) (n : ¬ Own σ Γ p) (h0 : F.H0 p = none) (ha : DqAll K G vs xs) (hb : pf F i = true) :
    En K F G (σ.set i (some (.ref p))) H (st Γ i (.own xs)) where
  le := E.le
  g0 := E.g0
  fr := E.fr
  base := E.base
  mu := E.mu
  sl := fun j => by
    by_cases q : i = j
    · subst q
      rw [lk_st_same _ _ _ hi, List.getElem?_set_self (by rw [E.len]; exact hi)]
      exact ⟨p, vs, rfl, g, h, ha, .inr h0⟩
    · rw [lk_st_ne _ _ _ _ q, List.getElem?_set_ne q]
      exact E.sl j
  nd := fun a b p' ys zs e1 e2 e3 e4 => by
    have hs : i < σ.length := by rw [E.len]; exact hi
    by_cases qa : i = a
    · by_cases qb : i = b
      · exact qa.symm.trans qb
      · subst qa
        rw [List.getElem?_set_self hs] at e3
        rw [lk_st_ne _ _ _ _ qb] at e2
        rw [List.getElem?_set_ne qb] at e4
        cases e3
        exact absurd ⟨b, zs, e2, e4⟩ n
    · by_cases qb : i = b
      · subst qb
        rw [List.getElem?_set_self hs] at e4
        rw [lk_st_ne _ _ _ _ qa] at e1
        rw [List.getElem?_set_ne qa] at e3
        cases e4
        exact absurd ⟨a, ys, e1, e3⟩ n
      · rw [lk_st_ne _ _ _ _ qa] at e1
        rw [lk_st_ne _ _ _ _ qb] at e2
        rw [List.getElem?_set_ne qa] at e3
        rw [List.getElem?_set_ne qb] at e4
        exact E.nd a b p' ys zs e1 e2 e3 e4
  len := by rw [List.length_set, st_length]; exact E.len
  pin := fun q hq => by
    have ne := pf_ne hb q hq
    rw [List.getElem?_set_ne (Ne.symm ne), lk_st_ne _ _ _ _ (Ne.symm ne)]
    exact E.pin q hq
  tab := E.tab
  nt := E.nt
theorem En.drop (E : En K F G σ H Γ) (i : Nat) (hb : pf F i = true) : En K F G σ H (st Γ i .no) where
  le := E.le
  g0 := E.g0
  fr := E.fr
  base := E.base
  mu := E.mu
  sl := fun j => by
    by_cases q : i = j
    · subst q
      by_cases hi : i < Γ.length
      · rw [lk_st_same _ _ _ hi]; trivial
      · rw [lk_big _ _ (by rw [st_length]; omega)]; trivial
    · rw [lk_st_ne _ _ _ _ q]
      exact E.sl j
  nd := fun a b p xs ys e1 e2 e3 e4 => by
    have aux : ∀ c zs, lk (st Γ i .no) c = .own zs → lk Γ c = .own zs := fun c zs e => by
      by_cases q : i = c
      · subst q
        by_cases hi : i < Γ.length
        · rw [lk_st_same _ _ _ hi] at e; cases e
        · rw [lk_big _ _ (by rw [st_length]; omega)] at e; cases e
      · rwa [lk_st_ne _ _ _ _ q] at e
    exact E.nd a b p xs ys (aux a xs e1) (aux b ys e2) e3 e4
  len := by rw [st_length]; exact E.len
  pin := fun q hq => by
    have ne := pf_ne hb q hq
    rw [lk_st_ne _ _ _ _ (Ne.symm ne)]
    exact E.pin q hq
  tab := E.tab
  nt := E.nt
theorem En.write (E : En K F G σ H Γ) {i : Nat} {p : Addr} {vs : List V} {xs ys : List PyData} (e : lk Γ i = .own xs) (es : σ[i]? = some (some (.ref p))) (ha : DqAll K G vs ys) :
    En K F G σ (upd H p (.lst vs)) (st Γ i (.own ys)) := by
  have hi : i < Γ.length := by
    apply Classical.byContradiction
    intro h
    rw [lk_big _ _ (by omega)] at e
    cases e
  obtain ⟨gp, us, hp⟩ := E.own ⟨i, xs, e, es⟩
  have s0 := E.sl i
  rw [e] at s0
  obtain ⟨p', us', e1, g, hp', _, hm⟩ := s0
  rw [es] at e1
  cases e1
  refine ⟨fun a u q => ?_, E.g0, E.fr, fun a u n q => ?_, fun a m => ?_, fun j => ?_, fun a b q' zs ws e1 e2 e3 e4 => ?_, by rw [st_length]; exact E.len, fun q hq => ⟨(E.pin q hq).1, ?_⟩, tabs_write E.tab hp, E.nt⟩
  · rw [upd_ne (ne_of_none q gp)]; exact E.le a u q
  · have ne : a ≠ p := by
      intro z
      subst z
      rcases hm with m | m
      · exact n m
      · rw [m] at q; cases q
    rw [upd_ne ne]; exact E.base a u n q
  · obtain ⟨u, q⟩ := E.mu a m
    by_cases z : a = p
    · subst z; exact ⟨_, upd_same⟩
    · exact ⟨u, by rw [upd_ne z]; exact q⟩
  · by_cases q : i = j
    · subst q
      rw [lk_st_same _ _ _ hi]
      exact ⟨p, vs, es, gp, upd_same, ha, hm⟩
    · rw [lk_st_ne _ _ _ _ q]
      have s := E.sl j
      cases ql : lk Γ j with
      | no => trivial
      | dat d => rw [ql] at s; exact s
      | own zs =>
        rw [ql] at s
        obtain ⟨a, ws, e3, g3, hp3, ha3, hm3⟩ := s
        have ne : a ≠ p := fun z => by
          subst z
          exact q (E.nd i j a xs zs e ql es e3)
        exact ⟨a, ws, e3, g3, by rw [upd_ne ne]; exact hp3, ha3, hm3⟩
  · have aux : ∀ c zs, lk (st Γ i (.own ys)) c = .own zs → ∃ zs', lk Γ c = .own zs' := fun c zs h => by
      by_cases q : i = c
      · subst q; exact ⟨xs, e⟩
      · rw [lk_st_ne _ _ _ _ q] at h; exact ⟨zs, h⟩
    obtain ⟨z1, h1⟩ := aux a zs e1
    obtain ⟨z2, h2⟩ := aux b ws e2
    exact E.nd a b q' z1 z2 h1 h2 e3 e4
  · by_cases w : i = q.1
    · rw [← w, lk_st_same _ _ _ hi]; exact ⟨ys, rfl⟩
    · rw [lk_st_ne _ _ _ _ w]; exact (E.pin q hq).2
theorem Step.write {i : Nat} {p : Addr} {vs : List V} {xs ys : List PyData} (e : lk Γ i = .own xs) (es : σ[i]? = some (some (.ref p))) : Step σ Γ (st Γ i (.own ys)) G H G (upd H p (.lst vs)) where
  g := fun _ _ h => h
  f := fun a o h => .inl ⟨o, h⟩
  k := fun a o h n _ => by
    rw [upd_ne (fun z => n (by rw [z]; exact ⟨i, xs, e, es⟩))]
    exact h
  o := fun a ⟨j, zs, h1, h2⟩ => by
    by_cases q : i = j
    · subst q; exact ⟨i, xs, e, h2⟩
    · rw [lk_st_ne _ _ _ _ q] at h1; exact ⟨j, zs, h1, h2⟩
  s := fun a us h => by
    by_cases q : a = p
    · subst q; exact ⟨vs, upd_same⟩
    · exact ⟨us, by rw [upd_ne q]; exact h⟩
theorem fre_of {G' H' : Hp} {Γ' : List Sl} (s : Step σ Γ Γ' G H G' H') (E : En K F G' σ H' Γ') {p : Addr} (hp : H' p = none) : Fre F H p := ⟨s.nl (.none hp), (E.no hp).1⟩
end
theorem pe_imp {X : Cx} {e : Expr} {t t' : TE} (h : PE X e t) (i : ∀ σ H Q, t' σ H Q → t σ H Q) : PE X e t' := ⟨fun pins s σ H Q I q => h.run pins s σ H Q I (i σ H Q q)⟩
theorem pt_imp {X : Cx} {e : Expr} {t t' : TT} (h : PT X e t) (i : ∀ σ H Q, t' σ H Q → t σ H Q) : PT X e t' := ⟨fun pins s σ H Q I q => h.run pins s σ H Q I (i σ H Q q)⟩
theorem pw_imp {X : Cx} {e : Expr} {t t' : TT} (h : PW X e t) (i : ∀ σ H Q, t' σ H Q → t σ H Q) : PW X e t' := ⟨fun wh pins s σ H Q I q => h.run wh pins s σ H Q I (i σ H Q q)⟩
theorem pa_imp {X : Cx} {es : List Expr} {t t' : TA} (h : PA X es t) (i : ∀ σ H Q, t' σ H Q → t σ H Q) : PA X es t' := ⟨fun pos pins s σ H Q I q => h.run pos pins s σ H Q I (i σ H Q q)⟩
theorem ps_imp {X : Cx} {s : Stmt} {t t' : TS} (h : PS X s t) (i : ∀ D σ H, t' D σ H → t D σ H) : PS X s t' := ⟨fun pins s σ H D I q => h.run pins s σ H D I (i D σ H q)⟩
theorem pss_imp {X : Cx} {s : List Stmt} {t t' : TS} (h : PSs X s t) (i : ∀ D σ H, t' D σ H → t D σ H) : PSs X s t' := ⟨fun pins s σ H D I q => h.run pins s σ H D I (i D σ H q)⟩
end AM

set_option Elab.async false
set_option linter.all false
set_option maxRecDepth 100000
set_option maxHeartbeats 2000000
namespace AM
open PySem L2
section
variable {X : Cx} {F : Fx} {Γ Γ1 Γ2 Γ3 : List Sl} {a b c e : Expr} {pos : Pos} {ra rb rc : Rv} {da db dc : PyData}
theorem de_var (i : Nat) {x : Str} {d : PyData} (hl : lk Γ i = .dat d := by rfl) (hN : X.N[i]? = some x := by rfl) (hv : Vis X.env.scope x := by first | exact Or.inl rfl | exact Or.inr (Or.inl rfl) | exact Or.inr (Or.inr rfl)) (hd : (x == ("__debug__" : Str)) = false := by decide)
    (hcd : (x == ("__classdict__" : Str)) = false := by decide) : PE X (.Name x pos) (tD X.K F Γ (.dat d) Γ) :=
  pe_imp (pe_var hN hv hd hcd) fun σ H Q ⟨G, E, k⟩ => by
    have s := E.sl i
    rw [hl] at s
    obtain ⟨v, e, hd⟩ := s
    exact ⟨v, e, k v H G Step.refl E hd⟩
theorem de_varO (i : Nat) {x : Str} {xs : List PyData} (hl : lk Γ i = .own xs := by rfl) (hN : X.N[i]? = some x := by rfl) (hv : Vis X.env.scope x := by first | exact Or.inl rfl | exact Or.inr (Or.inl rfl) | exact Or.inr (Or.inr rfl)) (hd : (x == ("__debug__" : Str)) = false := by decide)
    (hcd : (x == ("__classdict__" : Str)) = false := by decide) : PE X (.Name x pos) (tD X.K F Γ (.al i) Γ) :=
  pe_imp (pe_var hN hv hd hcd) fun σ H Q ⟨G, E, k⟩ => by
    have s := E.sl i
    rw [hl] at s
    obtain ⟨p, vs, e, _⟩ := s
    exact ⟨.ref p, e, k _ H G Step.refl E e⟩
theorem de_c {v : V} {d : PyData} (h : PE X e (tC v)) (hd : ∀ G, Dq X.K G v d) : PE X e (tD X.K F Γ (.dat d) Γ) :=
  pe_imp h fun σ H Q ⟨G, E, k⟩ => k v H G Step.refl E (hd G)
theorem de_int {i : Int} {j : Nat} : PE X (.Constant (.int i) j pos) (tD X.K F Γ (.dat (.int i)) Γ) := de_c pe_int fun _ => .int i
theorem de_bl {i : Bool} {j : Nat} : PE X (.Constant (.bool i) j pos) (tD X.K F Γ (.dat (.bool i)) Γ) := de_c pe_bl fun _ => .bl i
theorem de_non {j : Nat} : PE X (.Constant .none j pos) (tD X.K F Γ (.dat .none) Γ) := de_c pe_non fun _ => .non
theorem de_str {x : Str} {j : Nat} : PE X (.Constant (.str x) j pos) (tD X.K F Γ (.dat (.str x)) Γ) := de_c pe_str fun _ => .str x
theorem de_globI {x : Str} {i : Int} {u : Value} (hm : X.mg x = some u) (r : RelV (.int i) u) (hg : Gl X x := by rfl) (hd : (x == ("__debug__" : Str)) = false := by decide) : PE X (.Name x pos) (tD X.K F Γ (.dat (.int i)) Γ) := de_c (pe_glob hg hm r hd) fun _ => .int i
def RD2 (K : PySem.W.Frag) (F : Fx) (Γ : List Sl) (r : R2) (ra rb rc : Rv) : Prop := ∀ G H σ x y (Q : VK), En K F G σ H Γ → VR K G σ x ra → VR K G σ y rb →
  (∀ v H' G', Step σ Γ Γ G H G' H' → En K F G' σ H' Γ → VR K G' σ v rc → Q v H') → r x y H Q
def RN2 (K : PySem.W.Frag) (F : Fx) (Γ : List Sl) (r : R2) (ra rb : Rv) (xs : List PyData) : Prop := ∀ G H σ x y (Q : VK), En K F G σ H Γ → VR K G σ x ra → VR K G σ y rb →
  (∀ p vs H' G', Step σ Γ Γ G H G' H' → En K F G' σ H' Γ → Fre F H p → G' p = none → H' p = some (.lst vs) → DqAll K G' vs xs → Q (.ref p) H') → r x y H Q
theorem td_op {K : PySem.W.Frag} {r : R2} (h : RD2 K F Γ2 r ra rb rc) {σ : L2.St} {H : Hp} {Q : VK} (q : tD K F Γ rc Γ2 σ H Q) : tOp r (tD K F Γ ra Γ1) (tD K F Γ1 rb Γ2) σ H Q := by
  obtain ⟨G, E, k⟩ := q
  refine ⟨G, E, fun x H1 G1 s1 E1 v1 => ⟨G1, E1, fun y H2 G2 s2 E2 v2 => ?_⟩⟩
  exact h G2 H2 σ x y Q E2 (v1.mono s2.g) v2 fun v H3 G3 s3 E3 v3 => k v H3 G3 ((s1.trans s2).trans s3) E3 v3
theorem tn_op {K : PySem.W.Frag} {xs : List PyData} {r : R2} (h : RN2 K F Γ2 r ra rb xs) {σ : L2.St} {H : Hp} {Q : VK} (q : tN K F Γ xs Γ2 σ H Q) : tOp r (tD K F Γ ra Γ1) (tD K F Γ1 rb Γ2) σ H Q := by
  obtain ⟨G, E, k⟩ := q
  refine ⟨G, E, fun x H1 G1 s1 E1 v1 => ⟨G1, E1, fun y H2 G2 s2 E2 v2 => ?_⟩⟩
  exact h G2 H2 σ x y Q E2 (v1.mono s2.g) v2 fun p vs H3 G3 s3 E3 h1 h2 h3 h4 => k p vs H3 G3 ((s1.trans s2).trans s3) E3 (h1.back (s1.trans s2)) h2 h3 h4
theorem de_op {op : Operator} {r : R2} (ho : OpR X (binaryOp op) r) (h : RD2 X.K F Γ2 r ra rb rc) (ha : PE X a (tD X.K F Γ ra Γ1)) (hb : PE X b (tD X.K F Γ1 rb Γ2)) : PE X (.BinOp a op b pos) (tD X.K F Γ rc Γ2) :=
  pe_imp (pe_op ho ha hb) fun _ _ _ q => td_op h q
theorem dn_op {op : Operator} {xs : List PyData} {r : R2} (ho : OpR X (binaryOp op) r) (h : RN2 X.K F Γ2 r ra rb xs) (ha : PE X a (tD X.K F Γ ra Γ1)) (hb : PE X b (tD X.K F Γ1 rb Γ2)) : PE X (.BinOp a op b pos) (tN X.K F Γ xs Γ2) :=
  pe_imp (pe_op ho ha hb) fun _ _ _ q => tn_op h q
theorem de_cmp {op : CmpOp} {r : R2} (ho : OpR X (compareOp op) r) (h : RD2 X.K F Γ2 r ra rb rc) (ha : PE X a (tD X.K F Γ ra Γ1)) (hb : PE X b (tD X.K F Γ1 rb Γ2)) (hm : behindInMarks op b = false) : PE X (.Compare a [op] [b] pos) (tD X.K F Γ rc Γ2) :=
  pe_imp (pe_cmpR ho ha hb hm) fun _ _ _ q => td_op h q
theorem dt_cmp {op : CmpOp} {r : R2} {k : Bool} (ho : OpR X (compareOp op) r) (h : RD2 X.K F Γ2 r ra rb (.dat (.bool k))) (ha : PE X a (tD X.K F Γ ra Γ1)) (hb : PE X b (tD X.K F Γ1 rb Γ2)) (hm : behindInMarks op b = false) : PT X (.Compare a [op] [b] pos) (tDT X.K F Γ k Γ2) :=
  pt_imp (pt_cmpR ho ha hb hm) fun σ H Q ⟨G, E, q⟩ => by
    refine td_op h ⟨G, E, fun v H' G' s' E' v' => ⟨k, dp_bl v', q H' G' s' E'⟩⟩
section
variable {K : PySem.W.Frag}
theorem rd_I0 {g : Int → Int → Int} {i j : Int} : RD2 K F Γ (rI0 fun i j => .int (g i j)) (.dat (.int i)) (.dat (.int j)) (.dat (.int (g i j))) := fun G H σ x y Q E vx vy k =>
  ⟨i, j, dp_int vx, dp_int vy, k _ H G Step.refl E (.int _)⟩
theorem rd_I {C : Int → Int → Prop} {g : Int → Int → Int} {i j : Int} (hc : C i j) : RD2 K F Γ (rI C fun i j => .int (g i j)) (.dat (.int i)) (.dat (.int j)) (.dat (.int (g i j))) := fun G H σ x y Q E vx vy k =>
  ⟨i, j, dp_int vx, dp_int vy, hc, k _ H G Step.refl E (.int _)⟩
theorem rd_B0 {g : Int → Int → Bool} {i j : Int} : RD2 K F Γ (rI0 fun i j => .bl (g i j)) (.dat (.int i)) (.dat (.int j)) (.dat (.bool (g i j))) := fun G H σ x y Q E vx vy k =>
  ⟨i, j, dp_int vx, dp_int vy, k _ H G Step.refl E (.bl _)⟩
theorem rd_eqI {i j : Int} : RD2 K F Γ rEq (.dat (.int i)) (.dat (.int j)) (.dat (.bool (decide (i = j)))) := fun G H σ x y Q E vx vy k => by
  have e1 := dp_int vx
  have e2 := dp_int vy
  subst e1; subst e2
  refine ⟨rfl, k _ H G Step.refl E ?_⟩
  rw [dec_int, Bool.beq_eq_decide_eq]
  exact .bl _
theorem rd_neI {i j : Int} : RD2 K F Γ rNe (.dat (.int i)) (.dat (.int j)) (.dat (.bool (!decide (i = j)))) := fun G H σ x y Q E vx vy k => by
  have e1 := dp_int vx
  have e2 := dp_int vy
  subst e1; subst e2
  refine ⟨rfl, k _ H G Step.refl E ?_⟩
  rw [dec_int, Bool.beq_eq_decide_eq]
  exact .bl _
theorem rd_eqS {i j : Str} : RD2 K F Γ rEq (.dat (.str i)) (.dat (.str j)) (.dat (.bool (decide (i = j)))) := fun G H σ x y Q E vx vy k => by
  have e1 := dp_str vx
  have e2 := dp_str vy
  subst e1; subst e2
  refine ⟨rfl, k _ H G Step.refl E ?_⟩
  have : decide (V.str i = V.str j) = decide (i = j) := by
    by_cases e : i = j
    · subst e; simp
    · rw [decide_eq_false e, decide_eq_false (fun z => e (by injection z))]
  rw [this]
  exact .bl _
theorem rd_neS {i j : Str} : RD2 K F Γ rNe (.dat (.str i)) (.dat (.str j)) (.dat (.bool (!decide (i = j)))) := fun G H σ x y Q E vx vy k => by
  have e1 := dp_str vx
  have e2 := dp_str vy
  subst e1; subst e2
  refine ⟨rfl, k _ H G Step.refl E ?_⟩
  have : decide (V.str i = V.str j) = decide (i = j) := by
    by_cases e : i = j
    · subst e; simp
    · rw [decide_eq_false e, decide_eq_false (fun z => e (by injection z))]
  rw [this]
  exact .bl _
theorem rd_eqD (va : vw Γ ra = some da) (vb : vw Γ rb = some db) (sa : SeqAt.shaped da = true) (sb : SeqAt.shaped db = true) : RD2 K F Γ (rEqD K) ra rb (.dat (.bool (PyData.eqv da db))) := fun G H σ x y Q E vx vy k =>
  ⟨da, db, dq_dp _ _ (E.view vx va), dq_dp _ _ (E.view vy vb), sa, sb, k _ H G Step.refl E (.bl _)⟩
theorem rd_neD (va : vw Γ ra = some da) (vb : vw Γ rb = some db) (sa : SeqAt.shaped da = true) (sb : SeqAt.shaped db = true) : RD2 K F Γ (rNeD K) ra rb (.dat (.bool (!PyData.eqv da db))) := fun G H σ x y Q E vx vy k =>
  ⟨da, db, dq_dp _ _ (E.view vx va), dq_dp _ _ (E.view vy vb), sa, sb, k _ H G Step.refl E (.bl _)⟩
theorem dp_isNon {G : Hp} {v : V} {d : PyData} (h : Dq K G v d) : decide (v = .non) = (match d with | .none => true | _ => false) := by
  cases h <;> rfl
def isNon : PyData → Bool
  | .none => true
  | _ => false
theorem dp_isN {G : Hp} {v : V} {d : PyData} (h : Dq K G v d) : decide (v = .non) = isNon d := by
  cases h <;> rfl
theorem rd_isN (va : vw Γ ra = some da) : RD2 K F Γ (fun x y H Q => y = .non ∧ Q (.bl (decide (x = .non))) H) ra (.dat .none) (.dat (.bool (isNon da))) := fun G H σ x y Q E vx vy k => by
  refine ⟨dp_non vy, k _ H G Step.refl E ?_⟩
  rw [dp_isN (E.view vx va)]
  exact .bl _
theorem rd_notN (va : vw Γ ra = some da) : RD2 K F Γ (fun x y H Q => y = .non ∧ Q (.bl (!decide (x = .non))) H) ra (.dat .none) (.dat (.bool (!isNon da))) := fun G H σ x y Q E vx vy k => by
  refine ⟨dp_non vy, k _ H G Step.refl E ?_⟩
  rw [dp_isN (E.view vx va)]
  exact .bl _
def sqOf : PyData → Option (List PyData)
  | .list ds => some ds
  | .tuple ds => some ds
  | _ => none
theorem ixN_of {G : Hp} {vs : List V} {ds : List PyData} {i : Int} {d : PyData} (h : DqAll K G vs ds) (e : atI ds i = some d) : ∃ v, atI vs i = some v ∧ Dq K G v d := by
  unfold atI at e ⊢
  rw [dpa_len h]
  cases q : ixN ds.length i with
  | none => rw [q] at e; cases e
  | some j =>
    rw [q] at e
    exact dpa_get h e
theorem rd_ix {i : Int} {ds : List PyData} {d : PyData} (va : vw Γ ra = some da) (hs : sqOf da = some ds) (hd : atI ds i = some d) : RD2 K F Γ (rIx K) (ra) (.dat (.int i)) (.dat d) := fun G H σ x y Q E vx vy k => by
  have ey := dp_int vy
  subst ey
  -- the data of the place itself: in G where the thing is data, else of an own list
  have key : ∃ (p : Addr) (vs : List V) (v : V), x = .ref p ∧ (SqL K H p vs ∨ SqT K H p vs) ∧ atI vs i = some v ∧ Dq K G v d := by
    cases ra with
    | dat d' =>
      have : d' = da := Option.some.inj va
      subst this
      have vx : Dq K G x d' := vx
      cases vx with
      | lst q al => cases hs; obtain ⟨v, h1, h2⟩ := ixN_of al hd; exact ⟨_, _, v, rfl, .inl (.inl (rd_mono E.le (.inl q))), h1, h2⟩
      | tup q al => cases hs; obtain ⟨v, h1, h2⟩ := ixN_of al hd; exact ⟨_, _, v, rfl, .inr (sqT_mono E.le q), h1, h2⟩
      | _ => cases hs
    | al j =>
      have s := E.sl j
      have va : vwS (lk Γ j) = some da := va
      have vx : σ[j]? = some (some x) := vx
      cases q : lk Γ j with
      | no => rw [q] at va; cases va
      | dat d' =>
        rw [q] at va s
        have : d' = da := Option.some.inj va
        subst this
        obtain ⟨v', e1, hd'⟩ := s
        rw [vx] at e1
        cases e1
        clear q
        cases hd' with
        | lst q2 al => cases hs; obtain ⟨v, h1, h2⟩ := ixN_of al hd; exact ⟨_, _, v, rfl, .inl (.inl (rd_mono E.le (.inl q2))), h1, h2⟩
        | tup q2 al => cases hs; obtain ⟨v, h1, h2⟩ := ixN_of al hd; exact ⟨_, _, v, rfl, .inr (sqT_mono E.le q2), h1, h2⟩
        | _ => cases hs
      | own xs =>
        rw [q] at va s
        have : PyData.list xs = da := Option.some.inj va
        subst this
        cases hs
        obtain ⟨p, vs, e1, g, hp, ha, _⟩ := s
        rw [vx] at e1
        cases e1
        obtain ⟨v, h1, h2⟩ := ixN_of ha hd
        exact ⟨p, vs, v, rfl, .inl (SqL.of hp), h1, h2⟩
  obtain ⟨p, vs, v, rfl, hq, h1, h2⟩ := key
  rcases hq with hq | hq
  · exact .inl ⟨p, vs, i, v, rfl, rfl, hq, h1, k v H G Step.refl E h2⟩
  · exact .inr (.inl ⟨p, vs, i, v, rfl, rfl, hq, h1, k v H G Step.refl E h2⟩)
end
theorem op_mulA : OpR X (binaryOp .Mult) (rI IntMulOk fun i j => .int (i * j)) := opI fun _ _ _ _ _ _ _ hc q => PyProof.Rows.mul_int q hc
def CDivA (_ j : Int) : Prop := j ≠ 0 ∧ j.natAbs < 2 ^ 9000
theorem log2_lt9 {n : Nat} (h : n < 2 ^ 9000) : n.log2 < 9000 := PySem.Flt.log2_lt_of (by decide) h
theorem op_fdivA : OpR X (binaryOp .FloorDiv) (rI CDivA fun i j => .int (i.fdiv j)) := opI fun _ _ _ _ _ _ _ hc q => PyProof.Rows.floordiv_int hc.1 q (.inl (PyProof.noPylong_of_log2 (log2_lt9 hc.2)))
theorem de_add {i j : Int} (ha : PE X a (tD X.K F Γ (.dat (.int i)) Γ1)) (hb : PE X b (tD X.K F Γ1 (.dat (.int j)) Γ2)) : PE X (.BinOp a .Add b pos) (tD X.K F Γ (.dat (.int (i + j))) Γ2) := de_op op_add (rd_I0 (g := fun i j => i + j)) ha hb
theorem de_sub {i j : Int} (ha : PE X a (tD X.K F Γ (.dat (.int i)) Γ1)) (hb : PE X b (tD X.K F Γ1 (.dat (.int j)) Γ2)) : PE X (.BinOp a .Sub b pos) (tD X.K F Γ (.dat (.int (i - j))) Γ2) := de_op op_sub (rd_I0 (g := fun i j => i - j)) ha hb
theorem de_mul {i j : Int} (ha : PE X a (tD X.K F Γ (.dat (.int i)) Γ1)) (hb : PE X b (tD X.K F Γ1 (.dat (.int j)) Γ2)) (hc : IntMulOk i j) : PE X (.BinOp a .Mult b pos) (tD X.K F Γ (.dat (.int (i * j))) Γ2) := de_op op_mulA (rd_I (g := fun i j => i * j) hc) ha hb
theorem de_fdiv {i j : Int} (ha : PE X a (tD X.K F Γ (.dat (.int i)) Γ1)) (hb : PE X b (tD X.K F Γ1 (.dat (.int j)) Γ2)) (hc : CDivA i j) : PE X (.BinOp a .FloorDiv b pos) (tD X.K F Γ (.dat (.int (i.fdiv j))) Γ2) := de_op op_fdivA (rd_I (g := fun i j => i.fdiv j) hc) ha hb
theorem de_mod {i j : Int} (ha : PE X a (tD X.K F Γ (.dat (.int i)) Γ1)) (hb : PE X b (tD X.K F Γ1 (.dat (.int j)) Γ2)) (hc : j ≠ 0) : PE X (.BinOp a .Mod b pos) (tD X.K F Γ (.dat (.int (i.fmod j))) Γ2) := de_op op_modN (rd_I (C := fun _ j => j ≠ 0) (g := fun i j => i.fmod j) hc) ha hb
theorem de_pow {i j : Int} (ha : PE X a (tD X.K F Γ (.dat (.int i)) Γ1)) (hb : PE X b (tD X.K F Γ1 (.dat (.int j)) Γ2)) (hc : CPow i j) : PE X (.BinOp a .Pow b pos) (tD X.K F Γ (.dat (.int (i ^ j.toNat))) Γ2) := de_op op_pow (rd_I (g := fun i j => i ^ j.toNat) hc) ha hb
theorem de_neg {i : Int} (ha : PE X a (tD X.K F Γ (.dat (.int i)) Γ1)) : PE X (.UnaryOp .USub a pos) (tD X.K F Γ (.dat (.int (-i))) Γ1) :=
  pe_imp (pe_un un_neg ha) fun σ H Q ⟨G, E, k⟩ => ⟨G, E, fun x H1 G1 s1 E1 v1 => ⟨i, dp_int v1, k _ H1 G1 s1 E1 (.int _)⟩⟩
section
variable {i j : Int}
theorem de_lt (ha : PE X a (tD X.K F Γ (.dat (.int i)) Γ1)) (hb : PE X b (tD X.K F Γ1 (.dat (.int j)) Γ2)) : PE X (.Compare a [.Lt] [b] pos) (tD X.K F Γ (.dat (.bool (decide (i < j)))) Γ2) := de_cmp op_lt (rd_B0 (g := fun i j => decide (i < j))) ha hb (nomark _)
theorem de_le (ha : PE X a (tD X.K F Γ (.dat (.int i)) Γ1)) (hb : PE X b (tD X.K F Γ1 (.dat (.int j)) Γ2)) : PE X (.Compare a [.LtE] [b] pos) (tD X.K F Γ (.dat (.bool (decide (i ≤ j)))) Γ2) := de_cmp op_le (rd_B0 (g := fun i j => decide (i ≤ j))) ha hb (nomark _)
theorem de_gt (ha : PE X a (tD X.K F Γ (.dat (.int i)) Γ1)) (hb : PE X b (tD X.K F Γ1 (.dat (.int j)) Γ2)) : PE X (.Compare a [.Gt] [b] pos) (tD X.K F Γ (.dat (.bool (decide (j < i)))) Γ2) := de_cmp op_gt (rd_B0 (g := fun i j => decide (j < i))) ha hb (nomark _)
theorem de_ge (ha : PE X a (tD X.K F Γ (.dat (.int i)) Γ1)) (hb : PE X b (tD X.K F Γ1 (.dat (.int j)) Γ2)) : PE X (.Compare a [.GtE] [b] pos) (tD X.K F Γ (.dat (.bool (decide (j ≤ i)))) Γ2) := de_cmp op_ge (rd_B0 (g := fun i j => decide (j ≤ i))) ha hb (nomark _)
theorem de_eqI (ha : PE X a (tD X.K F Γ (.dat (.int i)) Γ1)) (hb : PE X b (tD X.K F Γ1 (.dat (.int j)) Γ2)) : PE X (.Compare a [.Eq] [b] pos) (tD X.K F Γ (.dat (.bool (decide (i = j)))) Γ2) := de_cmp op_eq rd_eqI ha hb (nomark _)
theorem de_neI (ha : PE X a (tD X.K F Γ (.dat (.int i)) Γ1)) (hb : PE X b (tD X.K F Γ1 (.dat (.int j)) Γ2)) : PE X (.Compare a [.NotEq] [b] pos) (tD X.K F Γ (.dat (.bool (!decide (i = j)))) Γ2) := de_cmp op_ne rd_neI ha hb (nomark _)
theorem dt_lt (ha : PE X a (tD X.K F Γ (.dat (.int i)) Γ1)) (hb : PE X b (tD X.K F Γ1 (.dat (.int j)) Γ2)) : PT X (.Compare a [.Lt] [b] pos) (tDT X.K F Γ (decide (i < j)) Γ2) := dt_cmp op_lt (rd_B0 (g := fun i j => decide (i < j))) ha hb (nomark _)
theorem dt_le (ha : PE X a (tD X.K F Γ (.dat (.int i)) Γ1)) (hb : PE X b (tD X.K F Γ1 (.dat (.int j)) Γ2)) : PT X (.Compare a [.LtE] [b] pos) (tDT X.K F Γ (decide (i ≤ j)) Γ2) := dt_cmp op_le (rd_B0 (g := fun i j => decide (i ≤ j))) ha hb (nomark _)
theorem dt_gt (ha : PE X a (tD X.K F Γ (.dat (.int i)) Γ1)) (hb : PE X b (tD X.K F Γ1 (.dat (.int j)) Γ2)) : PT X (.Compare a [.Gt] [b] pos) (tDT X.K F Γ (decide (j < i)) Γ2) := dt_cmp op_gt (rd_B0 (g := fun i j => decide (j < i))) ha hb (nomark _)
theorem dt_ge (ha : PE X a (tD X.K F Γ (.dat (.int i)) Γ1)) (hb : PE X b (tD X.K F Γ1 (.dat (.int j)) Γ2)) : PT X (.Compare a [.GtE] [b] pos) (tDT X.K F Γ (decide (j ≤ i)) Γ2) := dt_cmp op_ge (rd_B0 (g := fun i j => decide (j ≤ i))) ha hb (nomark _)
theorem dt_eqI (ha : PE X a (tD X.K F Γ (.dat (.int i)) Γ1)) (hb : PE X b (tD X.K F Γ1 (.dat (.int j)) Γ2)) : PT X (.Compare a [.Eq] [b] pos) (tDT X.K F Γ (decide (i = j)) Γ2) := dt_cmp op_eq rd_eqI ha hb (nomark _)
theorem dt_neI (ha : PE X a (tD X.K F Γ (.dat (.int i)) Γ1)) (hb : PE X b (tD X.K F Γ1 (.dat (.int j)) Γ2)) : PT X (.Compare a [.NotEq] [b] pos) (tDT X.K F Γ (!decide (i = j)) Γ2) := dt_cmp op_ne rd_neI ha hb (nomark _)
theorem de_eqS {i j : Str} (ha : PE X a (tD X.K F Γ (.dat (.str i)) Γ1)) (hb : PE X b (tD X.K F Γ1 (.dat (.str j)) Γ2)) : PE X (.Compare a [.Eq] [b] pos) (tD X.K F Γ (.dat (.bool (decide (i = j)))) Γ2) := de_cmp op_eq rd_eqS ha hb (nomark _)
theorem de_neS {i j : Str} (ha : PE X a (tD X.K F Γ (.dat (.str i)) Γ1)) (hb : PE X b (tD X.K F Γ1 (.dat (.str j)) Γ2)) : PE X (.Compare a [.NotEq] [b] pos) (tD X.K F Γ (.dat (.bool (!decide (i = j)))) Γ2) := de_cmp op_ne rd_neS ha hb (nomark _)
theorem dt_eqS {i j : Str} (ha : PE X a (tD X.K F Γ (.dat (.str i)) Γ1)) (hb : PE X b (tD X.K F Γ1 (.dat (.str j)) Γ2)) : PT X (.Compare a [.Eq] [b] pos) (tDT X.K F Γ (decide (i = j)) Γ2) := dt_cmp op_eq rd_eqS ha hb (nomark _)
theorem dt_neS {i j : Str} (ha : PE X a (tD X.K F Γ (.dat (.str i)) Γ1)) (hb : PE X b (tD X.K F Γ1 (.dat (.str j)) Γ2)) : PT X (.Compare a [.NotEq] [b] pos) (tDT X.K F Γ (!decide (i = j)) Γ2) := dt_cmp op_ne rd_neS ha hb (nomark _)
end
section
variable {k : Nat}
theorem de_eqD (hr : Room k X.A) (ha : PE X a (tD X.K F Γ ra Γ1)) (hb : PE X b (tD X.K F Γ1 rb Γ2)) (sa : SeqAt.shaped da = true) (sb : SeqAt.shaped db = true) (va : vw Γ2 ra = some da := by rfl) (vb : vw Γ2 rb = some db := by rfl) : PE X (.Compare a [.Eq] [b] pos) (tD X.K F Γ (.dat (.bool (PyData.eqv da db))) Γ2) := de_cmp (op_eqD hr.units) (rd_eqD va vb sa sb) ha hb (nomark _)
theorem de_neD (hr : Room k X.A) (ha : PE X a (tD X.K F Γ ra Γ1)) (hb : PE X b (tD X.K F Γ1 rb Γ2)) (sa : SeqAt.shaped da = true) (sb : SeqAt.shaped db = true) (va : vw Γ2 ra = some da := by rfl) (vb : vw Γ2 rb = some db := by rfl) : PE X (.Compare a [.NotEq] [b] pos) (tD X.K F Γ (.dat (.bool (!PyData.eqv da db))) Γ2) := de_cmp (op_neD hr.units) (rd_neD va vb sa sb) ha hb (nomark _)
theorem dt_eqD (hr : Room k X.A) (ha : PE X a (tD X.K F Γ ra Γ1)) (hb : PE X b (tD X.K F Γ1 rb Γ2)) (sa : SeqAt.shaped da = true) (sb : SeqAt.shaped db = true) (va : vw Γ2 ra = some da := by rfl) (vb : vw Γ2 rb = some db := by rfl) : PT X (.Compare a [.Eq] [b] pos) (tDT X.K F Γ (PyData.eqv da db) Γ2) := dt_cmp (op_eqD hr.units) (rd_eqD va vb sa sb) ha hb (nomark _)
theorem dt_neD (hr : Room k X.A) (ha : PE X a (tD X.K F Γ ra Γ1)) (hb : PE X b (tD X.K F Γ1 rb Γ2)) (sa : SeqAt.shaped da = true) (sb : SeqAt.shaped db = true) (va : vw Γ2 ra = some da := by rfl) (vb : vw Γ2 rb = some db := by rfl) : PT X (.Compare a [.NotEq] [b] pos) (tDT X.K F Γ (!PyData.eqv da db) Γ2) := dt_cmp (op_neD hr.units) (rd_neD va vb sa sb) ha hb (nomark _)
end
theorem de_isN (ha : PE X a (tD X.K F Γ ra Γ1)) (va : vw Γ1 ra = some da := by rfl) {j : Nat} {pos' : Pos} : PE X (.Compare a [.Is] [.Constant .none j pos'] pos) (tD X.K F Γ (.dat (.bool (isNon da))) Γ1) := de_cmp op_isN (rd_isN va) ha de_non (nomark _)
theorem de_notN (ha : PE X a (tD X.K F Γ ra Γ1)) (va : vw Γ1 ra = some da := by rfl) {j : Nat} {pos' : Pos} : PE X (.Compare a [.IsNot] [.Constant .none j pos'] pos) (tD X.K F Γ (.dat (.bool (!isNon da))) Γ1) := de_cmp op_notN (rd_notN va) ha de_non (nomark _)
theorem dt_isN (ha : PE X a (tD X.K F Γ ra Γ1)) (va : vw Γ1 ra = some da := by rfl) {j : Nat} {pos' : Pos} : PT X (.Compare a [.Is] [.Constant .none j pos'] pos) (tDT X.K F Γ (isNon da) Γ1) := dt_cmp op_isN (rd_isN va) ha de_non (nomark _)
theorem dt_notN (ha : PE X a (tD X.K F Γ ra Γ1)) (va : vw Γ1 ra = some da := by rfl) {j : Nat} {pos' : Pos} : PT X (.Compare a [.IsNot] [.Constant .none j pos'] pos) (tDT X.K F Γ (!isNon da) Γ1) := dt_cmp op_notN (rd_notN va) ha de_non (nomark _)
theorem de_ix {i : Int} {ds : List PyData} {d : PyData} (ha : PE X a (tD X.K F Γ ra Γ1)) (hb : PE X b (tD X.K F Γ1 (.dat (.int i)) Γ2)) (hd : atI ds i = some d) (va : vw Γ2 ra = some da := by rfl) (hs : sqOf da = some ds := by rfl) (hp : PlainIx b := by exact fun _ _ => rfl) :
    PE X (.Subscript a b pos) (tD X.K F Γ (.dat d) Γ2) := pe_imp (pe_ix ix_seq ha hb hp) fun _ _ _ q => td_op (rd_ix va hs hd) q
theorem dt_b {k : Bool} (h : PE X e (tD X.K F Γ (.dat (.bool k)) Γ1)) (he : ∀ whole, isTrue e X.env whole = (do let v ← whole; standAt e.pos; holding [v] (truthy v)) := by intro _; rfl) : PT X e (tDT X.K F Γ k Γ1) :=
  pt_imp (pt_val h he) fun σ H Q ⟨G, E, q⟩ => ⟨G, E, fun v H1 G1 s1 E1 v1 => ⟨k, dp_bl v1, q H1 G1 s1 E1⟩⟩
theorem dt_not {k : Bool} (h : PT X e (tDT X.K F Γ k Γ1)) : PT X (.UnaryOp .Not e pos) (tDT X.K F Γ (!k) Γ1) := pt_imp (pt_not h) fun σ H Q ⟨G, E, q⟩ => ⟨G, E, q⟩
theorem dw_and1 {k : Bool} (h : PT X a (tDT X.K F Γ k Γ1)) : PW X (.BoolOp .And [a] pos) (tDT X.K F Γ k Γ1) := pw_and1 h
theorem dw_or1 {k : Bool} (h : PT X a (tDT X.K F Γ k Γ1)) : PW X (.BoolOp .Or [a] pos) (tDT X.K F Γ k Γ1) := pw_or1 h
theorem dw_and {k l : Bool} {rest : List Expr} (h : PT X a (tDT X.K F Γ k Γ)) (h2 : k = true → PW X (.BoolOp .And (b :: rest) pos) (tDT X.K F Γ l Γ)) : PW X (.BoolOp .And (a :: b :: rest) pos) (tDT X.K F Γ (k && l) Γ) := by
  cases k with
  | true => exact pw_imp (pw_and h (h2 rfl)) fun σ H Q ⟨G, E, q⟩ => ⟨G, E, fun H1 G1 s1 E1 => ⟨G1, E1, fun H2 G2 s2 E2 => q H2 G2 (s1.trans s2) E2⟩⟩
  | false =>
    refine ⟨fun wh pins s σ H Q I h' => ?_⟩
    refine PyProof.Rows.isTrue_and (thn (h.run pins s σ H (fun c H1 => c = false ∧ Q false H1) I ?_) fun c s1 ⟨H1, I1, q1, q2⟩ => ?_)
    · obtain ⟨G, E, q⟩ := h'
      exact ⟨G, E, fun H1 G1 s1 E1 => ⟨rfl, q H1 G1 s1 E1⟩⟩
    · subst q1
      exact ⟨H1, I1, q2⟩
theorem dw_or {k l : Bool} {rest : List Expr} (h : PT X a (tDT X.K F Γ k Γ)) (h2 : k = false → PW X (.BoolOp .Or (b :: rest) pos) (tDT X.K F Γ l Γ)) : PW X (.BoolOp .Or (a :: b :: rest) pos) (tDT X.K F Γ (k || l) Γ) := by
  cases k with
  | false => exact pw_imp (pw_or h (h2 rfl)) fun σ H Q ⟨G, E, q⟩ => ⟨G, E, fun H1 G1 s1 E1 => ⟨G1, E1, fun H2 G2 s2 E2 => q H2 G2 (s1.trans s2) E2⟩⟩
  | true =>
    refine ⟨fun wh pins s σ H Q I h' => ?_⟩
    refine PyProof.Rows.isTrue_or (thn (h.run pins s σ H (fun c H1 => c = true ∧ Q true H1) I ?_) fun c s1 ⟨H1, I1, q1, q2⟩ => ?_)
    · obtain ⟨G, E, q⟩ := h'
      exact ⟨G, E, fun H1 G1 s1 E1 => ⟨rfl, q H1 G1 s1 E1⟩⟩
    · subst q1
      exact ⟨H1, I1, q2⟩
theorem de_not {k : Bool} (h : PE X e (tD X.K F Γ (.dat (.bool k)) Γ1)) : PE X (.UnaryOp .Not e pos) (tD X.K F Γ (.dat (.bool (!k))) Γ1) :=
  pe_imp (pe_not h) fun σ H Q ⟨G, E, q⟩ => ⟨G, E, fun v H1 G1 s1 E1 v1 => ⟨k, dp_bl v1, q _ H1 G1 s1 E1 (.bl _)⟩⟩
theorem de_one {op} {r : Rv} (h : PE X a (tD X.K F Γ r Γ1)) : PE X (.BoolOp op [a] pos) (tD X.K F Γ r Γ1) := pe_one h
theorem de_and {k l : Bool} {rest : List Expr} (h : PE X a (tD X.K F Γ (.dat (.bool k)) Γ)) (h2 : k = true → PE X (.BoolOp .And (b :: rest) pos) (tD X.K F Γ (.dat (.bool l)) Γ)) : PE X (.BoolOp .And (a :: b :: rest) pos) (tD X.K F Γ (.dat (.bool (k && l))) Γ) := by
  cases k with
  | true => exact pe_imp (pe_and h (h2 rfl)) fun σ H Q ⟨G, E, q⟩ => ⟨G, E, fun v H1 G1 s1 E1 v1 => ⟨true, dp_bl v1, by
      rw [if_pos rfl]
      exact ⟨G1, E1, fun v H2 G2 s2 E2 v2 => q v H2 G2 (s1.trans s2) E2 v2⟩⟩⟩
  | false =>
    refine ⟨fun pins s σ H Q I h' => ?_⟩
    refine PyProof.Rows.BoolOp_and (thn (h.run pins s σ H (fun v H1 => v = .bl false ∧ Q (.bl false) H1) I ?_) fun v s1 ⟨x, H1, I1, r1, q1, q2⟩ => ?_)
    · obtain ⟨G, E, q⟩ := h'
      exact ⟨G, E, fun v H1 G1 s1 E1 v1 => ⟨dp_bl v1, q _ H1 G1 s1 E1 (.bl _)⟩⟩
    · subst q1
      cases r1
      exact wpAny_truthy_bool ⟨.bl false, H1, I1, rfl, q2⟩
theorem de_or {k l : Bool} {rest : List Expr} (h : PE X a (tD X.K F Γ (.dat (.bool k)) Γ)) (h2 : k = false → PE X (.BoolOp .Or (b :: rest) pos) (tD X.K F Γ (.dat (.bool l)) Γ)) : PE X (.BoolOp .Or (a :: b :: rest) pos) (tD X.K F Γ (.dat (.bool (k || l))) Γ) := by
  cases k with
  | false => exact pe_imp (pe_or h (h2 rfl)) fun σ H Q ⟨G, E, q⟩ => ⟨G, E, fun v H1 G1 s1 E1 v1 => ⟨false, dp_bl v1, by
      rw [if_neg Bool.false_ne_true]
      exact ⟨G1, E1, fun v H2 G2 s2 E2 v2 => q v H2 G2 (s1.trans s2) E2 v2⟩⟩⟩
  | true =>
    refine ⟨fun pins s σ H Q I h' => ?_⟩
    refine PyProof.Rows.BoolOp_or (thn (h.run pins s σ H (fun v H1 => v = .bl true ∧ Q (.bl true) H1) I ?_) fun v s1 ⟨x, H1, I1, r1, q1, q2⟩ => ?_)
    · obtain ⟨G, E, q⟩ := h'
      exact ⟨G, E, fun v H1 G1 s1 E1 v1 => ⟨dp_bl v1, q _ H1 G1 s1 E1 (.bl _)⟩⟩
    · subst q1
      cases r1
      exact wpAny_truthy_bool ⟨.bl true, H1, I1, rfl, q2⟩
theorem de_if {k : Bool} {r : Rv} (hc : PT X c (tDT X.K F Γ k Γ1)) (h1 : k = true → PE X a (tD X.K F Γ1 r Γ2)) (h2 : k = false → PE X b (tD X.K F Γ1 r Γ2)) : PE X (.IfExp c a b pos) (tD X.K F Γ r Γ2) := by
  refine ⟨fun pins s σ H Q I h => ?_⟩
  obtain ⟨G, E, q⟩ := h
  refine wpAny_IfExp (thn (hc.run pins s σ H (fun d H1 => d = k ∧ ∃ G1, Step σ Γ Γ1 G H G1 H1 ∧ En X.K F G1 σ H1 Γ1) I ⟨G, E, fun H1 G1 s1 E1 => ⟨rfl, G1, s1, E1⟩⟩) fun d s1 ⟨H1, I1, e1, G1, st1, E1⟩ => ?_)
  subst e1
  cases d with
  | true => exact (h1 rfl).run pins s1 σ H1 Q I1 ⟨G1, E1, fun v H2 G2 s2 E2 v2 => q v H2 G2 (st1.trans s2) E2 v2⟩
  | false => exact (h2 rfl).run pins s1 σ H1 Q I1 ⟨G1, E1, fun v H2 G2 s2 E2 v2 => q v H2 G2 (st1.trans s2) E2 v2⟩
theorem da_nil : PA X [] (tDA X.K F Γ [] Γ) := pa_imp pa_nil fun σ H Q ⟨G, E, q⟩ => q [] H G Step.refl E .nil
theorem paired_mono {σ : L2.St} {K : PySem.W.Frag} {G G1 : Hp} (e : Same G G1) : ∀ {vs : List V} {rs : List Rv}, Paired (fun v r => VR K G σ v r) vs rs → Paired (fun v r => VR K G1 σ v r) vs rs
  | _, _, .nil => .nil
  | _, _, .cons q r => .cons (VR.mono e q) (paired_mono e r)
theorem da_cons {r : Rv} {rs : List Rv} {es : List Expr} (h : PE X a (tD X.K F Γ r Γ1)) (hr : PA X es (tDA X.K F Γ1 rs Γ2)) (hs : starEach (a :: es) X.env = (false, eval a X.env) :: starEach es X.env := by rfl) : PA X (a :: es) (tDA X.K F Γ (r :: rs) Γ2) :=
  pa_imp (pa_cons h hr hs) fun σ H Q ⟨G, E, q⟩ => ⟨G, E, fun v H1 G1 s1 E1 v1 => ⟨G1, E1, fun vs H2 G2 s2 E2 v2 => q (v :: vs) H2 G2 (s1.trans s2) E2 (.cons (v1.mono s2.g) v2)⟩⟩
def datS : List Rv → Option (List PyData)
  | [] => some []
  | .dat d :: r => (datS r).map (d :: ·)
  | .al _ :: _ => none
theorem datS_dp {K : PySem.W.Frag} {G : Hp} {σ : L2.St} : ∀ {vs : List V} {rs : List Rv} {ds : List PyData}, Paired (fun v r => VR K G σ v r) vs rs → datS rs = some ds → DqAll K G vs ds
  | _, _, _, .nil, e => by cases e; exact .nil
  | _, .dat d :: r, _, .cons q t, e => by
    unfold datS at e
    cases z : datS r with
    | none => rw [z] at e; cases e
    | some es =>
      rw [z] at e
      cases e
      exact .cons q (datS_dp t z)
  | _, .al _ :: _, _, .cons _ _, e => by cases e
theorem de_tup {rs : List Rv} {ds : List PyData} {es : List Expr} {x1} (h : PA X es (tDA X.K F Γ rs Γ1)) (hl : ds.length ≤ 100000) (hd : datS rs = some ds := by rfl) : PE X (.Tuple es x1 pos) (tD X.K F Γ (.dat (.tuple ds)) Γ1) :=
  pe_imp (pe_tup h) fun σ H Q ⟨G, E, q⟩ => ⟨G, E, fun vs H1 G1 s1 E1 v1 => by
    have a := datS_dp v1 hd
    refine ⟨by rw [dpa_len a]; exact Nat.le_trans hl (by decide), fun p hp => ?_⟩
    have g := (E1.no hp).2.2
    exact q _ _ _ (s1.trans (Step.newDat hp g)) (E1.newDat hp) (.tup (SqT.of upd_same) (dpa_mono (same_upd g) _ _ a))⟩
theorem dn_lst {rs : List Rv} {ds : List PyData} {es : List Expr} (h : PA X es (tDA X.K F Γ rs Γ1)) (hl : ds.length ≤ 100000) (hd : datS rs = some ds := by rfl) : PE X (.List es pos) (tN X.K F Γ ds Γ1) :=
  pe_imp (pe_lst h) fun σ H Q ⟨G, E, q⟩ => ⟨G, E, fun vs H1 G1 s1 E1 v1 => by
    have a := datS_dp v1 hd
    refine ⟨by rw [dpa_len a]; exact Nat.le_trans hl (by decide), fun p hp => ?_⟩
    exact q p vs _ G1 (s1.trans (Step.newRaw hp)) (E1.newRaw hp) (fre_of s1 E1 hp) (E1.no hp).2.2 upd_same a⟩
theorem own_ne {K : PySem.W.Frag} {G G' H H' : Hp} {σ : L2.St} (s : Step σ Γ Γ1 G H G' H') (E : En K F G σ H Γ) {p : Addr} (h : Nl H p) : ¬ Own σ Γ1 p := fun z => by
  obtain ⟨_, vs, e⟩ := E.own (s.o p z)
  exact h vs e
theorem de_fz {xs : List PyData} (h : PE X e (tN X.K F Γ xs Γ1)) : PE X e (tD X.K F Γ (.dat (.list xs)) Γ1) :=
  pe_imp h fun σ H Q ⟨G, E, q⟩ => ⟨G, E, fun p vs H1 G1 s1 E1 hp g hl a => by
    have no := own_ne s1 E hp.1
    have sg : Same G1 (upd G1 p (.lst vs)) := same_upd g
    refine q _ H1 (upd G1 p (.lst vs)) ⟨fun x o z => sg x o (s1.g x o z), fun x o z => ?_, s1.k, s1.o, s1.s⟩ (E1.freeze hl g no hp.2) (.lst upd_same (dpa_mono sg _ _ a))
    by_cases w : x = p
    · subst w; exact .inr hp.1
    · rw [upd_ne w] at z; exact s1.f x o z⟩
end
end AM

set_option Elab.async false
set_option linter.all false
set_option maxRecDepth 100000
set_option maxHeartbeats 2000000
namespace AM
open PySem PySem.Spec PyProof.Rows L2

inductive Out where
  | nx (Γ : List Sl)
  | rt (d : PyData) (Γ : List Sl)
  | bk (Γ : List Sl)
  | ct (Γ : List Sl)
  | ex (c : Addr)
def tS (K : PySem.W.Frag) (F : Fx) (W : WX) (Γ : List Sl) (P : Out → Prop) : TS := fun D σ H => ∃ G, En K F G σ H Γ ∧
  (∀ Γ' σ' H' G', P (.nx Γ') → Same G G' → En K F G' σ' H' Γ' → D.nx σ' H') ∧
  (∀ d Γ' v σ' H' G', P (.rt d Γ') → Same G G' → En K F G' σ' H' Γ' → Dq K G' v d → D.rt v H') ∧
  (∀ Γ' σ' H' G', P (.bk Γ') → Same G G' → En K F G' σ' H' Γ' → D.bk σ' H') ∧
  (∀ Γ' σ' H' G', P (.ct Γ') → Same G G' → En K F G' σ' H' Γ' → D.ct σ' H') ∧
  (∀ c Γ' σ' H' G', P (.ex c) → Same G G' → En K F G' σ' H' Γ' → W (.ref c) none σ' H')
def thn' (X : Cx) (F : Fx) (W : WX) (rest : List Stmt) (P : Out → Prop) : Out → Prop
  | .nx Γ => PSs X rest (tS X.K F W Γ P)
  | o => P o
section
variable {X : Cx} {F : Fx} {W : WX} {Γ Γ1 Γ2 : List Sl} {P P' : Out → Prop} {rest body orelse : List Stmt} {e a b c : Expr} {pos pos' : Pos} {d : PyData} {xs : List PyData}
theorem Same.r {H : Hp} : Same H H := fun _ _ h => h
theorem ds_nil (h : P (.nx Γ)) : PSs X [] (tS X.K F W Γ P) := pss_imp pss_nil fun D σ H ⟨G, E, q, _⟩ => q Γ σ H G h Same.r E
theorem ds_seq {s : Stmt} (h : PS X s (tS X.K F W Γ (thn' X F W rest P))) : PSs X (s :: rest) (tS X.K F W Γ P) := by
  have hr : PSs X rest (fun D σ H => ∃ Γ', PSs X rest (tS X.K F W Γ' P) ∧ tS X.K F W Γ' P D σ H) :=
    ⟨fun pins s σ H D I ⟨Γ', p, q⟩ => p.run pins s σ H D I q⟩
  refine pss_imp (pss_cons h hr) fun D σ H ⟨G, E, q1, q2, q3, q4, q5⟩ => ⟨G, E, fun Γ' σ' H' G' p g E' => ⟨Γ', p, G', E', ?_, ?_, ?_, ?_, ?_⟩, q2, q3, q4, q5⟩
  · exact fun Γ'' σ'' H'' G'' p' g' E'' => q1 Γ'' σ'' H'' G'' p' (g.trans g') E''
  · exact fun d Γ'' v σ'' H'' G'' p' g' E'' => q2 d Γ'' v σ'' H'' G'' p' (g.trans g') E''
  · exact fun Γ'' σ'' H'' G'' p' g' E'' => q3 Γ'' σ'' H'' G'' p' (g.trans g') E''
  · exact fun Γ'' σ'' H'' G'' p' g' E'' => q4 Γ'' σ'' H'' G'' p' (g.trans g') E''
  · exact fun c Γ'' σ'' H'' G'' p' g' E'' => q5 c Γ'' σ'' H'' G'' p' (g.trans g') E''
theorem ds_imp {s : List Stmt} (h : PSs X s (tS X.K F W Γ P)) (i : ∀ o, P o → P' o) : PSs X s (tS X.K F W Γ P') :=
  pss_imp h fun D σ H ⟨G, E, q1, q2, q3, q4, q5⟩ => ⟨G, E, fun Γ' σ' H' G' p => q1 Γ' σ' H' G' (i _ p), fun d Γ' v σ' H' G' p => q2 d Γ' v σ' H' G' (i _ p), fun Γ' σ' H' G' p => q3 Γ' σ' H' G' (i _ p), fun Γ' σ' H' G' p => q4 Γ' σ' H' G' (i _ p), fun c Γ' σ' H' G' p => q5 c Γ' σ' H' G' (i _ p)⟩
theorem ds_set (i : Nat) {x : Str} (he : PE X e (tD X.K F Γ (.dat d) Γ1)) (hr : PSs X rest (tS X.K F W (st Γ1 i (.dat d)) P)) (hN : X.N.Nodup) (hi : X.N[i]? = some x := by rfl) (hx : Loc X.env.scope x := by first | exact Or.inl rfl | exact Or.inr rfl) (hl : inb Γ1 i = true := by rfl) (hb : pf F i = true := by rfl)
    (hs : swapsWith e (some (.Name x pos')) pos.line X.env = pure false := by rfl) (hf : X.fn x = true ∨ X.env.scope.names.lookup x = some .local := by first | exact .inl rfl | exact .inr rfl | assumption) :
    PSs X (.Assign [.Name x pos'] e pos :: rest) (tS X.K F W Γ P) :=
  ds_seq (ps_imp (ps_set hN hi hx he hs hf) fun D σ H ⟨G, E, q, _⟩ => ⟨G, E, fun v H1 G1 s1 E1 v1 => q (st Γ1 i (.dat d)) _ H1 G1 hr s1.g (E1.setDat v1 (inb_lt hl) hb)⟩)
theorem ds_setN (i : Nat) {x : Str} (he : PE X e (tN X.K F Γ xs Γ1)) (hr : PSs X rest (tS X.K F W (st Γ1 i (.own xs)) P)) (hN : X.N.Nodup) (hi : X.N[i]? = some x := by rfl) (hx : Loc X.env.scope x := by first | exact Or.inl rfl | exact Or.inr rfl) (hl : inb Γ1 i = true := by rfl) (hb : pf F i = true := by rfl)
    (hs : swapsWith e (some (.Name x pos')) pos.line X.env = pure false := by rfl) (hf : X.fn x = true ∨ X.env.scope.names.lookup x = some .local := by first | exact .inl rfl | exact .inr rfl | assumption) :
    PSs X (.Assign [.Name x pos'] e pos :: rest) (tS X.K F W Γ P) :=
  ds_seq (ps_imp (ps_set hN hi hx he hs hf) fun D σ H ⟨G, E, q, _⟩ => ⟨G, E, fun p vs H1 G1 s1 E1 hp g hl' a => q (st Γ1 i (.own xs)) _ H1 G1 hr s1.g (E1.setOwn (inb_lt hl) hl' g (own_ne s1 E hp.1) hp.2 a hb)⟩)
theorem ds_ret (he : PE X e (tD X.K F Γ (.dat d) Γ1)) (hp : P (.rt d Γ1)) : PSs X (.Return (some e) pos :: rest) (tS X.K F W Γ P) :=
  ds_seq (ps_imp (ps_ret he) fun D σ H ⟨G, E, _, q, _⟩ => ⟨G, E, fun v H1 G1 s1 E1 v1 => q d Γ1 v σ H1 G1 hp s1.g E1 v1⟩)
theorem ds_retN (hp : P (.rt .none Γ)) : PSs X (.Return none pos :: rest) (tS X.K F W Γ P) :=
  ds_seq (ps_imp ps_retN fun D σ H ⟨G, E, _, q, _⟩ => q .none Γ .non σ H G hp Same.r E .non)
theorem En.thaw {K : PySem.W.Frag} {G H : Hp} {σ : L2.St} (E : En K F G σ H Γ) {i : Nat} (h : lk Γ i = .own xs) (hb : pf F i = true) : ∃ G', Same G G' ∧ En K F G' σ H (st Γ i (.dat (.list xs))) := by
  have hi : i < Γ.length := by
    apply Classical.byContradiction
    intro z
    rw [lk_big _ _ (by omega)] at h
    cases h
  have s := E.sl i
  rw [h] at s
  obtain ⟨p, vs, e1, g, hp, ha, hm⟩ := s
  have h0 : F.H0 p = none := hm.resolve_left fun z => by
    rcases z with ⟨j, hj⟩ | z
    · obtain ⟨e2, ys, e3⟩ := E.pin _ hj
      exact pf_ne hb _ hj (E.nd j i p ys xs e3 h e2 e1)
    · exact tabs_ne E.tab hp z
  have E1 := E.drop i hb
  have no : ¬ Own σ (st Γ i .no) p := fun ⟨j, ys, q1, q2⟩ => by
    by_cases w : i = j
    · subst w; rw [lk_st_same _ _ _ hi] at q1; cases q1
    · rw [lk_st_ne _ _ _ _ w] at q1
      exact w (E.nd i j p xs ys h q1 e1 q2)
  have E2 := E1.freeze hp g no h0
  have sg : Same G (upd G p (.lst vs)) := same_upd g
  refine ⟨upd G p (.lst vs), sg, ?_⟩
  have E3 := E2.setDat (i := i) (v := .ref p) (d := .list xs) (.lst upd_same (dpa_mono sg _ _ ha)) (by rw [st_length]; exact hi) hb
  have e2 : σ.set i (some (.ref p)) = σ := by
    apply List.ext_getElem?
    intro j
    by_cases w : i = j
    · subst w; rw [List.getElem?_set_self (by rw [E.len]; exact hi)]; exact e1.symm
    · rw [List.getElem?_set_ne w]
  have e3 : st (st Γ i .no) i (.dat (.list xs)) = st Γ i (.dat (.list xs)) := by
    clear E E1 E2 E3 no h hp g ha hm h0 e1 e2 sg hb
    induction Γ generalizing i with
    | nil => rfl
    | cons s r ih =>
      cases i with
      | zero => rfl
      | succ n => simp only [st]; rw [ih (Nat.lt_of_succ_lt_succ hi)]
  rw [e2, e3] at E3
  exact E3
theorem ds_fz (i : Nat) (h : PSs X rest (tS X.K F W (st Γ i (.dat (.list xs))) P)) (hl : lk Γ i = .own xs := by rfl) (hb : pf F i = true := by rfl) : PSs X rest (tS X.K F W Γ P) :=
  pss_imp h fun D σ H ⟨G, E, q1, q2, q3, q4, q5⟩ => by
    obtain ⟨G', sg, E'⟩ := E.thaw hl hb
    exact ⟨G', E', fun Γ' σ' H' G' p g => q1 Γ' σ' H' G' p (sg.trans g), fun d Γ' v σ' H' G' p g => q2 d Γ' v σ' H' G' p (sg.trans g), fun Γ' σ' H' G' p g => q3 Γ' σ' H' G' p (sg.trans g), fun Γ' σ' H' G' p g => q4 Γ' σ' H' G' p (sg.trans g), fun c Γ' σ' H' G' p g => q5 c Γ' σ' H' G' p (sg.trans g)⟩
theorem ds_drop (i : Nat) (h : PSs X rest (tS X.K F W (st Γ i .no) P)) (hb : pf F i = true := by rfl) : PSs X rest (tS X.K F W Γ P) :=
  pss_imp h fun D σ H ⟨G, E, q⟩ => ⟨G, E.drop i hb, q⟩
theorem ds_if {k : Bool} (hc : PT X c (tDT X.K F Γ k Γ1)) (h1 : k = true → PSs X body (tS X.K F W Γ1 (thn' X F W rest P))) (h2 : k = false → PSs X orelse (tS X.K F W Γ1 (thn' X F W rest P))) : PSs X (.If c body orelse pos :: rest) (tS X.K F W Γ P) := by
  refine ds_seq ?_
  have w1 : PSs X body (fun D σ H => k = true ∧ tS X.K F W Γ1 (thn' X F W rest P) D σ H) := ⟨fun pins s σ H D I ⟨e, q⟩ => (h1 e).run pins s σ H D I q⟩
  have w2 : PSs X orelse (fun D σ H => k = false ∧ tS X.K F W Γ1 (thn' X F W rest P) D σ H) := ⟨fun pins s σ H D I ⟨e, q⟩ => (h2 e).run pins s σ H D I q⟩
  refine ps_imp (ps_if hc w1 w2) fun D σ H ⟨G, E, q1, q2, q3, q4, q5⟩ => ⟨G, E, fun H1 G1 s1 E1 => ?_⟩
  have fin : tS X.K F W Γ1 (thn' X F W rest P) D σ H1 := ⟨G1, E1, fun Γ' σ' H' G' p g => q1 Γ' σ' H' G' p (s1.g.trans g), fun d Γ' v σ' H' G' p g => q2 d Γ' v σ' H' G' p (s1.g.trans g), fun Γ' σ' H' G' p g => q3 Γ' σ' H' G' p (s1.g.trans g), fun Γ' σ' H' G' p g => q4 Γ' σ' H' G' p (s1.g.trans g), fun c Γ' σ' H' G' p g => q5 c Γ' σ' H' G' p (s1.g.trans g)⟩
  cases k with
  | true => exact ⟨rfl, fin⟩
  | false => exact ⟨rfl, fin⟩
theorem ds_expr {r : Rv} (he : PE X e (tD X.K F Γ r Γ1)) (hr : PSs X rest (tS X.K F W Γ1 P)) (hs : swapsWith e none pos.line X.env = pure false := by rfl) : PSs X (.Expr e pos :: rest) (tS X.K F W Γ P) :=
  ds_seq (ps_imp (ps_expr he hs) fun D σ H ⟨G, E, q, _⟩ => ⟨G, E, fun v H1 G1 s1 E1 v1 => q Γ1 σ H1 G1 hr s1.g E1⟩)
theorem ds_par (i j : Nat) {x y : Str} {d1 d2 : PyData} {px py pt : Pos} {kt k2 pt2} (ha : PA X [a, b] (tDA X.K F Γ [.dat d1, .dat d2] Γ1)) (hr : PSs X rest (tS X.K F W (st (st Γ1 i (.dat d1)) j (.dat d2)) P)) (hN : X.N.Nodup) (hi : X.N[i]? = some x := by rfl) (hj : X.N[j]? = some y := by rfl)
    (hc : X.calm = true := by rfl) (hij : i ≠ j := by decide) (hx : X.env.scope.names.lookup x = some .local := by rfl) (hy : X.env.scope.names.lookup y = some .local := by rfl) (hl1 : inb Γ1 i = true := by rfl) (hl2 : inb Γ1 j = true := by rfl) (hb1 : pf F i = true := by rfl) (hb2 : pf F j = true := by rfl)
    (hw : swappedStores [.Tuple [.Name x px, .Name y py] kt pt] (.Tuple [a, b] k2 pt2) X.env = pure (some [x, y]) := by rfl) (hs : swapsWithSole [.Tuple [.Name x px, .Name y py] kt pt] (.Tuple [a, b] k2 pt2) pos.line X.env = pure false := by rfl) :
    PSs X (.Assign [.Tuple [.Name x px, .Name y py] kt pt] (.Tuple [a, b] k2 pt2) pos :: rest) (tS X.K F W Γ P) :=
  ds_seq (ps_imp (ps_par hc hN hi hj hij hx hy ha hw hs) fun D σ H ⟨G, E, q, _⟩ => ⟨G, E, fun vs H1 G1 s1 E1 v1 => by
    cases v1 with
    | cons p1 r1 =>
      cases r1 with
      | cons p2 r2 =>
        cases r2
        exact ⟨_, _, rfl, q _ _ H1 G1 hr s1.g ((E1.setDat p1 (inb_lt hl1) hb1).setDat p2 (by rw [st_length]; exact inb_lt hl2) hb2)⟩⟩)
def loopP (X : Cx) (F : Fx) (W : WX) (rest : List Stmt) (P : Out → Prop) (N : List Sl → Prop) : Out → Prop
  | .nx Γ => N Γ
  | .ct Γ => N Γ
  | .bk Γ => PSs X rest (tS X.K F W Γ P)
  | o => P o
theorem ds_while (V : Nat → List Sl → Prop) (m : Nat) (h0 : V m Γ) (hp : PassesOwn (model X.prog X.w) X.A X.env X.xe)
    (turn : ∀ m Γ, V m Γ → ∃ k Γ1, PT X c (tDT X.K F Γ k Γ1) ∧ (k = true → PSs X body (tS X.K F W Γ1 (loopP X F W rest P fun Γ' => ∃ m', m' < m ∧ V m' Γ'))) ∧ (k = false → PSs X rest (tS X.K F W Γ1 P))) :
    PSs X (.While c body [] pos :: rest) (tS X.K F W Γ P) := by
  refine ds_seq ?_
  have hc : PT X c (fun σ H Q => ∃ m Γ k Γ1, V m Γ ∧ PT X c (tDT X.K F Γ k Γ1) ∧ tDT X.K F Γ k Γ1 σ H Q) := ⟨fun pins s σ H Q I ⟨_, _, _, _, _, p, q⟩ => p.run pins s σ H Q I q⟩
  have hb : PSs X body (fun D σ H => ∃ m Γ1, PSs X body (tS X.K F W Γ1 (loopP X F W rest P fun Γ' => ∃ m', m' < m ∧ V m' Γ')) ∧ tS X.K F W Γ1 (loopP X F W rest P fun Γ' => ∃ m', m' < m ∧ V m' Γ') D σ H) := ⟨fun pins s σ H D I ⟨_, _, p, q⟩ => p.run pins s σ H D I q⟩
  refine ps_imp (ps_while hp hc hb) fun D σ H ⟨G, E, q1, q2, q3, q4, q5⟩ => ?_
  refine ⟨fun m σ H => ∃ Γ G', V m Γ ∧ Same G G' ∧ En X.K F G' σ H Γ, ⟨m, Γ, G, h0, Same.r, E⟩, ?_⟩
  rintro m σ H ⟨Γ, G1, v, sg, E1⟩
  obtain ⟨k, Γ1, pt, hy, hn⟩ := turn m Γ v
  refine ⟨m, Γ, k, Γ1, v, pt, G1, E1, fun H2 G2 s2 E2 => ?_⟩
  cases k with
  | true =>
    rw [if_pos rfl]
    refine ⟨fun σ' H' => ∃ Γ' G', (∃ m', m' < m ∧ V m' Γ') ∧ Same G G' ∧ En X.K F G' σ' H' Γ', fun σ' H' ⟨Γ', G', ⟨m', h1, h2⟩, h3, h4⟩ => ⟨m', h1, Γ', G', h2, h3, h4⟩, m, Γ1, hy rfl, G2, E2, ?_, ?_, ?_, ?_, ?_⟩
    · exact fun Γ' σ' H' G' p g E' => ⟨Γ', G', p, (sg.trans s2.g).trans g, E'⟩
    · exact fun d Γ' v σ' H' G' p g E' => q2 d Γ' v σ' H' G' p ((sg.trans s2.g).trans g) E'
    · exact fun Γ' σ' H' G' p g E' => q1 Γ' σ' H' G' p ((sg.trans s2.g).trans g) E'
    · exact fun Γ' σ' H' G' p g E' => ⟨Γ', G', p, (sg.trans s2.g).trans g, E'⟩
    · exact fun c Γ' σ' H' G' p g E' => q5 c Γ' σ' H' G' p ((sg.trans s2.g).trans g) E'
  | false =>
    rw [if_neg Bool.false_ne_true]
    exact q1 Γ1 σ H2 G2 (hn rfl) (sg.trans s2.g) E2
structure ItD (K : PySem.W.Frag) (G : Hp) (J : It) (ds : List PyData) : Prop where
  go : ∀ i H, Same G H → i < ds.length → J.go i H
  yl : ∀ i H G1 x H', Same G G1 → Same G1 H → i < ds.length → J.yld i H x H' → ∃ d, ds[i]? = some d ∧ ((H' = H ∧ Dq K G1 x d) ∨ ∃ p o, H p = none ∧ NoTb o ∧ H' = upd H p o ∧ Dq K (upd G1 p o) x d)
  stop : ∀ i H, Same G H → ds.length ≤ i → J.stop i H
def tI (K : PySem.W.Frag) (F : Fx) (Γ : List Sl) (ds : List PyData) (Γ' : List Sl) : TI := fun σ H R => ∃ G, En K F G σ H Γ ∧
  ∀ J H' G', Step σ Γ Γ' G H G' H' → En K F G' σ H' Γ' → ItD K G' J ds → R J H'
def tT (K : PySem.W.Frag) (F : Fx) (A : PyData → List Sl → List Sl → Prop) : TG := fun v σ H Q => ∃ G d Γ Γ', A d Γ Γ' ∧ En K F G σ H Γ ∧ Dq K G v d ∧ ∀ σ' H' G', Same G G' → En K F G' σ' H' Γ' → Q σ' H'
theorem ds_for {tg iter : Expr} {ds : List PyData} {A : PyData → List Sl → List Sl → Prop} (V : Nat → List Sl → Prop) (hi : PI X tg iter (tI X.K F Γ ds Γ1)) (hg : PG X tg (tT X.K F A)) (h0 : V 0 Γ1) (hp : PassesOwn (model X.prog X.w) X.A X.env X.xe)
    (turn : ∀ i d Γ, ds[i]? = some d → V i Γ → ∃ Γt, A d Γ Γt ∧ PSs X body (tS X.K F W Γt (loopP X F W rest P (V (i + 1)))))
    (done : ∀ Γ, V ds.length Γ → PSs X rest (tS X.K F W Γ P)) (hc : X.calm = true := by rfl) (hs : ∀ x, foldedSetIterable iter X.env x = pure x := by intro _; rfl) :
    PSs X (.For tg iter body [] pos :: rest) (tS X.K F W Γ P) := by
  refine ds_seq ?_
  have hb : PSs X body (fun D σ H => ∃ i Γt, PSs X body (tS X.K F W Γt (loopP X F W rest P (V (i + 1)))) ∧ tS X.K F W Γt (loopP X F W rest P (V (i + 1))) D σ H) := ⟨fun pins s σ H D I ⟨_, _, p, q⟩ => p.run pins s σ H D I q⟩
  refine ps_imp (ps_for hp hc hi hg hb hs) fun D σ H ⟨G, E, q1, q2, q3, q4, q5⟩ => ⟨G, E, fun J H1 G1 s1 E1 it => ?_⟩
  refine ⟨fun i m σ H => m = ds.length - i ∧ i ≤ ds.length ∧ ∃ Γ G', V i Γ ∧ Same G1 G' ∧ En X.K F G' σ H Γ, ⟨ds.length, by simp, Nat.zero_le _, Γ1, G1, h0, Same.r, E1⟩, ?_⟩
  rintro i m σ H ⟨rfl, hle, Γ, G2, v, sg, E2⟩
  by_cases hlt : i < ds.length
  · refine .inr ⟨it.go i H (sg.trans E2.le) hlt, fun σ' H' => ∃ Γ' G', V (i + 1) Γ' ∧ Same G1 G' ∧ En X.K F G' σ' H' Γ', fun σ' H' ⟨Γ', G', h1, h2, h3⟩ => ⟨ds.length - (i + 1), by omega, rfl, hlt, Γ', G', h1, h2, h3⟩, fun x H' y => ?_⟩
    obtain ⟨d, hd, alt⟩ := it.yl i H G2 x H' sg E2.le hlt y
    obtain ⟨Γt, hA, hbody⟩ := turn i d Γ hd v
    have fin : ∀ G3, Same G2 G3 → En X.K F G3 σ H' Γ → Dq X.K G3 x d → tT X.K F A x σ H' (fun σ2 H2 => ∃ n Γt, PSs X body (tS X.K F W Γt (loopP X F W rest P (V (n + 1)))) ∧ tS X.K F W Γt (loopP X F W rest P (V (n + 1))) { D with nx := fun σ' H' => ∃ Γ' G', V (i + 1) Γ' ∧ Same G1 G' ∧ En X.K F G' σ' H' Γ', ct := fun σ' H' => ∃ Γ' G', V (i + 1) Γ' ∧ Same G1 G' ∧ En X.K F G' σ' H' Γ', bk := D.nx } σ2 H2) := fun G3 s3 E3 d3 => by
      have sg3 : Same G1 G3 := sg.trans s3
      refine ⟨G3, d, Γ, Γt, hA, E3, d3, fun σ4 H4 G4 s4 E4 => ?_⟩
      refine ⟨i, Γt, hbody, ?_⟩
      have sg4 : Same G1 G4 := sg3.trans s4
      have sgG : Same G G4 := s1.g.trans sg4
      refine ⟨G4, E4, ?_, ?_, ?_, ?_, ?_⟩
      · exact fun Γ' σ' H' G' p g E' => ⟨Γ', G', p, sg4.trans g, E'⟩
      · exact fun d Γ' v σ' H' G' p g E' => q2 d Γ' v σ' H' G' p (sgG.trans g) E'
      · exact fun Γ' σ' H' G' p g E' => q1 Γ' σ' H' G' p (sgG.trans g) E'
      · exact fun Γ' σ' H' G' p g E' => ⟨Γ', G', p, sg4.trans g, E'⟩
      · exact fun c Γ' σ' H' G' p g E' => q5 c Γ' σ' H' G' p (sgG.trans g) E'
    rcases alt with ⟨rfl, hx⟩ | ⟨p, o, hp', ho, rfl, hx⟩
    · exact fin G2 Same.r E2 hx
    · exact fin _ (same_upd (E2.no hp').2.2) (E2.newDat hp' ho) hx
  · have e : i = ds.length := by omega
    subst e
    refine .inl ⟨it.stop _ H (sg.trans E2.le) (Nat.le_refl _), q1 Γ σ H G2 (done Γ v) (s1.g.trans sg) E2⟩
def aName (F : Fx) (i : Nat) : PyData → List Sl → List Sl → Prop := fun d Γ Γ' => Γ' = st Γ i (.dat d) ∧ inb Γ i = true ∧ pf F i = true
theorem pt_name (i : Nat) {x : Str} (hN : X.N.Nodup) (hi : X.N[i]? = some x := by rfl) (hx : Loc X.env.scope x := by first | exact Or.inl rfl | exact Or.inr rfl) (hf : X.fn x = true ∨ X.env.scope.names.lookup x = some .local := by first | exact .inl rfl | exact .inr rfl | assumption) : PG X (.Name x pos) (tT X.K F (aName F i)) := by
  have h : PG X (.Name x pos) (gName i) := pg_name hN hi hx hf
  refine ⟨fun pins s σ H v u Q I r ⟨G, d, Γ, Γ', ⟨e, hl, hb⟩, E, hd, q⟩ => h.run pins s σ H v u Q I r ?_⟩
  subst e
  exact q _ H G Same.r (E.setDat hd (inb_lt hl) hb)
theorem itd_list {K : PySem.W.Frag} {G : Hp} {p : Addr} {vs : List V} {ds : List PyData} (hq : Rd G p (.lst vs)) (ha : DqAll K G vs ds) : ItD K G (Itl K p) ds where
  go := fun i H e hi => by
    obtain ⟨v, hv, _⟩ := dpa_get (i := i) ha (List.getElem?_eq_getElem hi)
    exact ⟨vs, v, .inl (rd_mono e hq), hv⟩
  yl := fun i H G1 x H' e1 e2 hi ⟨rfl, y⟩ => by
    obtain ⟨v, hv, hd⟩ := dpa_get (i := i) ha (List.getElem?_eq_getElem hi)
    have : x = v := Option.some.inj ((y vs (.inl (rd_mono (e1.trans e2) hq))).symm.trans hv)
    subst this
    exact ⟨_, List.getElem?_eq_getElem hi, .inl ⟨rfl, dp_mono e1 _ _ hd⟩⟩
  stop := fun i H e hi => ⟨vs, .inl (rd_mono e hq), by rw [dpa_len ha]; exact hi⟩
theorem itd_tup {K : PySem.W.Frag} {G : Hp} {p : Addr} {vs : List V} {ds : List PyData} (hq : SqT K G p vs) (ha : DqAll K G vs ds) : ItD K G (Itt K p) ds where
  go := fun i H e hi => by
    obtain ⟨v, hv, _⟩ := dpa_get (i := i) ha (List.getElem?_eq_getElem hi)
    exact ⟨vs, v, sqT_mono e hq, hv⟩
  yl := fun i H G1 x H' e1 e2 hi ⟨rfl, y⟩ => by
    obtain ⟨v, hv, hd⟩ := dpa_get (i := i) ha (List.getElem?_eq_getElem hi)
    have : x = v := Option.some.inj ((y vs (sqT_mono (e1.trans e2) hq)).symm.trans hv)
    subst this
    exact ⟨_, List.getElem?_eq_getElem hi, .inl ⟨rfl, dp_mono e1 _ _ hd⟩⟩
  stop := fun i H e hi => ⟨vs, sqT_mono e hq, by rw [dpa_len ha]; exact hi⟩
theorem di_list {tg : Expr} {ds : List PyData} (h : PE X e (tD X.K F Γ (.dat (.list ds)) Γ1)) : PI X tg e (tI X.K F Γ ds Γ1) := by
  have h1 : PI X tg e _ := pi_list h
  refine ⟨fun pins s σ H R I ⟨G, E, q⟩ => h1.run pins s σ H R I ⟨G, E, fun v H1 G1 s1 E1 v1 => ?_⟩⟩
  obtain ⟨p, vs, rfl, hq, ha⟩ := dp_lst v1
  exact ⟨p, rfl, ⟨vs, .inl (rd_mono E1.le (.inl hq))⟩, q _ H1 G1 s1 E1 (itd_list (.inl hq) ha)⟩
theorem di_tup {tg : Expr} {ds : List PyData} (h : PE X e (tD X.K F Γ (.dat (.tuple ds)) Γ1)) : PI X tg e (tI X.K F Γ ds Γ1) := by
  have h1 : PI X tg e _ := pi_tup h
  refine ⟨fun pins s σ H R I ⟨G, E, q⟩ => h1.run pins s σ H R I ⟨G, E, fun v H1 G1 s1 E1 v1 => ?_⟩⟩
  obtain ⟨p, vs, rfl, hq, ha⟩ := dp_tup v1
  exact ⟨p, rfl, ⟨vs, sqT_mono E1.le hq⟩, q _ H1 G1 s1 E1 (itd_tup hq ha)⟩
def rng (lo : Int) (n : Nat) : List PyData := (List.range n).map fun i : Nat => .int (lo + (i : Int))
theorem rng_len (lo : Int) (n : Nat) : (rng lo n).length = n := by simp [rng]
theorem rng_get (lo : Int) {n i : Nat} (h : i < n) : (rng lo n)[i]? = some (.int (lo + (i : Int))) := by simp [rng, h]
theorem itd_rng {K : PySem.W.Frag} {G : Hp} (lo : Int) (n : Nat) : ItD K G (Itr lo n) (rng lo n) where
  go := fun i H e hi => by rw [rng_len] at hi; exact hi
  yl := fun i H G1 x H' e1 e2 hi ⟨rfl, y⟩ => by
    rw [rng_len] at hi
    subst y
    exact ⟨_, rng_get lo hi, .inl ⟨rfl, .int _⟩⟩
  stop := fun i H e hi => by rw [rng_len] at hi; exact hi
theorem di_range1 {tg : Expr} {j : Int} {p : Pos} (ha : PA X [a] (tDA X.K F Γ [.dat (.int j)] Γ1)) (hm : X.mg "range" = none) (h1 : -(2 ^ 62) ≤ j) (h2 : j < 2 ^ 62) (hg : Gl X "range" := by rfl) (hs : starEach [a] X.env = [(false, eval a X.env)] := by rfl) : PI X tg (.Call (.Name "range" p) [a] [] pos) (tI X.K F Γ (rng 0 j.toNat) Γ1) := by
  have h := pi_range1 (tg := tg) (p := p) (pos := pos) hg hm ha hs
  refine ⟨fun pins s σ H R I ⟨G, E, q⟩ => h.run pins s σ H R I ⟨G, E, fun vs H1 G1 s1 E1 v1 => ?_⟩⟩
  cases v1 with
  | cons p1 r1 =>
    cases r1
    exact ⟨j, by rw [dp_int p1], h1, h2, q _ H1 G1 s1 E1 (itd_rng 0 _)⟩
theorem di_range2 {tg : Expr} {i j : Int} {p : Pos} (ha : PA X [a, b] (tDA X.K F Γ [.dat (.int i), .dat (.int j)] Γ1)) (hm : X.mg "range" = none) (h1 : -(2 ^ 62) ≤ i ∧ i < 2 ^ 62 ∧ -(2 ^ 62) ≤ j ∧ j < 2 ^ 62) (hg : Gl X "range" := by rfl) (hs : starEach [a, b] X.env = [(false, eval a X.env), (false, eval b X.env)] := by rfl) (hs2 : starEach [b] X.env = [(false, eval b X.env)] := by rfl) : PI X tg (.Call (.Name "range" p) [a, b] [] pos) (tI X.K F Γ (rng i (j - i).toNat) Γ1) := by
  have h := pi_range2 (tg := tg) (p := p) (pos := pos) hg hm ha hs hs2
  refine ⟨fun pins s σ H R I ⟨G, E, q⟩ => h.run pins s σ H R I ⟨G, E, fun vs H1 G1 s1 E1 v1 => ?_⟩⟩
  cases v1 with
  | cons p1 r1 =>
    cases r1 with
    | cons p2 r2 =>
      cases r2
      exact ⟨i, j, by rw [dp_int p1, dp_int p2], h1, q _ H1 G1 s1 E1 (itd_rng i _)⟩
end
inductive Res where
  | ok (d : PyData)
  | ex (c : Addr)
structure Grown (G H G' H' : Hp) : Prop where
  h : Same H H'
  g : Same G G'
  le : Same G' H'
  f : ∀ a o, G' a = some o → (∃ o', G a = some o') ∨ H a = none
  nt : NT G'
def spP (K : PySem.W.Frag) (R : List PyData → Res → Prop) : Sp := fun vs H Q E => ∃ G ds r, Same G H ∧ NT G ∧ DqAll K G vs ds ∧ R ds r ∧
  match r with
  | .ok d => ∀ v H' G', Grown G H G' H' → Dq K G' v d → Q v H'
  | .ex c => ∀ H', Same H H' → E (.ref c) none H'
def wantP : Res → Out → Prop
  | .ok d, .rt d' _ => d' = d
  | .ok d, .nx _ => d = .none
  | .ex c, .ex c' => c' = c
  | _, _ => False
def startG (N : Nat) (ds : List PyData) : List Sl := ds.map .dat ++ List.replicate (N - ds.length) .no
theorem lk_start (N : Nat) : ∀ (ds : List PyData) (i : Nat), lk (ds.map Sl.dat ++ List.replicate (N - ds.length) .no) i = (match ds[i]? with | some d => .dat d | none => .no) := by
  have big : ∀ (n i : Nat), lk (List.replicate n Sl.no) i = .no := by
    intro n
    induction n with
    | zero => intro i; rfl
    | succ n ih =>
      intro i
      cases i with
      | zero => rfl
      | succ i => exact ih i
  have gen : ∀ (m : Nat) (ds : List PyData) (i : Nat), lk (ds.map Sl.dat ++ List.replicate m .no) i = (match ds[i]? with | some d => .dat d | none => .no) := by
    intro m ds
    induction ds with
    | nil => intro i; simpa using big m i
    | cons d ds ih =>
      intro i
      cases i with
      | zero => rfl
      | succ i => simpa [lk] using ih i
  exact fun ds i => gen _ ds i
section
variable {P : Program} {w : World} {K : PySem.W.Frag} {mg : Str → Option Value} {base : Heap}
def fx0 (H G : Hp) : Fx := ⟨[], H, G, []⟩
theorem fx0_M {H G : Hp} {a : Addr} : ¬ (fx0 H G).M a := fun h => by
  rcases h with ⟨_, h⟩ | ⟨_, h⟩ <;> cases h
theorem env_start {G H : Hp} {vs : List V} {ds : List PyData} {N : List Str} (sg : Same G H) (nt : NT G) (ha : DqAll K G vs ds) (hl : ds.length ≤ N.length) : En K (fx0 H G) G (L2.start N vs) H (startG N.length ds) where
  le := sg
  g0 := Same.r
  fr := fun a o h => .inl ⟨o, h⟩
  base := fun a o _ h => h
  mu := fun a z => (fx0_M z).elim
  sl := fun i => by
    unfold startG
    rw [lk_start]
    cases q : ds[i]? with
    | none => trivial
    | some d =>
      obtain ⟨v, hv, hd⟩ := dpa_get ha q
      refine ⟨v, ?_, hd⟩
      unfold L2.start
      rw [List.getElem?_append_left (by have := (List.getElem?_eq_some_iff.mp hv).1; simpa using this), List.getElem?_map, hv]
      rfl
  nd := fun i j p xs ys e1 => by
    unfold startG at e1
    rw [lk_start] at e1
    cases q : ds[i]? <;> rw [q] at e1 <;> cases e1
  len := by
    have e := dpa_len ha
    simp [L2.start, startG, e]
  pin := fun q hq => by cases hq
  tab := fun q hq => by cases hq
  nt := nt
structure FunG (K : PySem.W.Frag) (x qual : Str) (st : Stmt) (f : Addr) (fd : FuncData) : Prop where
  ex : ∃ (oc : Value) (od : Option Addr) (dV kV doc pm : Value) (an : Option Addr) (cdv ct : Value) (osl : Array (Option Value)),
    fd = PySem.W.fnOf x qual (defArgs st) (defBody st) (defScope st) dV kV doc pm an cdv ct ∧ K.lookup f = some ⟨oc, od, .func fd, osl⟩ ∧ PySem.W.codeIn K cdv qual = true
  kp : PySem.W.keepIn K (.ref f) = true
theorem FunG.okX {x qual : Str} {st : Stmt} {f : Addr} {fd : FuncData} {N ps : List Str} {k : Nat} {sp : Sp} (F : FunG K x qual st f fd) (S : FnScope N ps (defScope st)) (len : ∀ vs H Q E, sp vs H Q E → vs.length = ps.length)
    (hbody : ∀ (cdv : Value) (A : Around) (outer : List PySem.Env) (s : Shared) (H : Hp) (vs : List V) (Q : VK) (E : XK), Room k (A.deeper (envOfC qual (defScope st) s.heap.objs.size f cdv)) → sp vs H Q E →
      ∃ t, PSs (cxOf (L2.CX P w) P w K mg base N qual (defScope st) f cdv A outer s H E) (defBody st) t ∧ t { nx := fun _ H' => Q .non H', rt := Q } (L2.start N vs) H) : FnOk P w K mg base (L2.CX P w) (k + 1) f fd ps sp := by
  obtain ⟨oc, od, dV, kV, doc, pm, an, cdv, ct, osl, rfl, lk, hcd⟩ := F.ex
  exact fn_of lk hcd S len fun A outer s H vs Q E hr hsp => hbody cdv A outer s H vs Q E hr hsp
theorem fun_g {x qual : Str} {st : Stmt} {f : Addr} {fd : FuncData} (F : Fun K x qual st f fd) : FunG K x qual st f fd := by
  obtain ⟨oc, od, kV, doc, pm, an, cdv, ct, osl, e, lk, hcd⟩ := F.ex
  exact ⟨⟨oc, od, .none, kV, doc, pm, an, cdv, ct, osl, e, lk, hcd⟩, F.kp⟩
theorem fn_pure {x qual : Str} {st : Stmt} {f : Addr} {fd : FuncData} {N ps : List Str} {k : Nat} {R : List PyData → Res → Prop} (Fn : FunG K x qual st f fd) (S : FnScope N ps (defScope st)) (len : ∀ ds r, R ds r → ds.length = ps.length) (hle : ps.length ≤ N.length)
    (body : ∀ (cdv : Value) (A : Around) (outer : List PySem.Env) (s : Shared) (H G : Hp) (E : XK) (ds : List PyData) (r : Res), Room k (A.deeper (envOfC qual (defScope st) s.heap.objs.size f cdv)) → R ds r →
      PSs (cxOf (L2.CX P w) P w K mg base N qual (defScope st) f cdv A outer s H E) (defBody st) (tS K (fx0 H G) (fun c d _ H => E c d H) (startG N.length ds) (wantP r))) : FnOk P w K mg base (L2.CX P w) (k + 1) f fd ps (spP K R) := by
  refine Fn.okX S (fun vs H Q E h => ?_) (fun cdv A outer s H vs Q E hr h => ?_)
  · obtain ⟨G, ds, r, _, _, ha, hR, _⟩ := h
    rw [dpa_len ha]; exact len _ _ hR
  · obtain ⟨G, ds, r, sg, nt, ha, hR, q⟩ := h
    refine ⟨_, body cdv A outer s H G E ds r hr hR, ?_⟩
    have E0 := env_start (K := K) (N := N) sg nt ha (by rw [len _ _ hR]; exact hle)
    have gr : ∀ {σ' H' G' Γ'}, Same G G' → En K (fx0 H G) G' σ' H' Γ' → Grown G H G' H' := fun g E' => ⟨fun a o h => E'.base a o fx0_M h, g, E'.le, E'.fr, E'.nt⟩
    refine ⟨G, E0, ?_, ?_, ?_, ?_, ?_⟩
    · intro Γ' σ' H' G' p g E'
      cases r with
      | ok d =>
        have : d = .none := p
        subst this
        exact q .non H' G' (gr g E') .non
      | ex c => exact p.elim
    · intro d' Γ' v σ' H' G' p g E' hd
      cases r with
      | ok d =>
        have : d' = d := p
        subst this
        exact q v H' G' (gr g E') hd
      | ex c => exact p.elim
    · intro Γ' σ' H' G' p
      cases r <;> exact p.elim
    · intro Γ' σ' H' G' p
      cases r <;> exact p.elim
    · intro c Γ' σ' H' G' p g E'
      cases r with
      | ok d => exact p.elim
      | ex c' =>
        have : c = c' := p
        subst this
        exact q H' (gr g E').h
end
section
variable {X : Cx} {F : Fx} {W : WX} {Γ Γ1 Γ2 : List Sl} {a e : Expr} {es : List Expr} {pos p : Pos} {k : Nat} {f : Addr} {fd : FuncData} {ps : List Str} {x : Str} {R : List PyData → Res → Prop} {rs : List Rv} {ds : List PyData} {d : PyData}
theorem En.grown {K : PySem.W.Frag} {G H G' H' : Hp} {σ : L2.St} (E : En K F G σ H Γ) (g : Grown G H G' H') : En K F G' σ H' Γ where
  le := g.le
  g0 := fun a o h => g.g a o (E.g0 a o h)
  fr := fun a o h => by
    rcases g.f a o h with ⟨o', h'⟩ | h'
    · exact E.fr a o' h'
    · exact .inr (E.no h').1
  base := fun a o n h => g.h a o (E.base a o n h)
  mu := fun a m => by
    obtain ⟨o, h⟩ := E.mu a m
    exact ⟨o, g.h a o h⟩
  sl := fun i => by
    have s := E.sl i
    cases q : lk Γ i with
    | no => trivial
    | dat d => rw [q] at s; obtain ⟨v, e, hd⟩ := s; exact ⟨v, e, dp_mono g.g _ _ hd⟩
    | own xs =>
      rw [q] at s
      obtain ⟨p, vs, e, gp, hp, ha, hm⟩ := s
      refine ⟨p, vs, e, ?_, g.h _ _ hp, dpa_mono g.g _ _ ha, hm⟩
      cases z : G' p with
      | none => rfl
      | some o =>
        rcases g.f p o z with ⟨o', h'⟩ | h'
        · rw [gp] at h'; cases h'
        · rw [hp] at h'; cases h'
  nd := E.nd
  len := E.len
  pin := E.pin
  tab := E.tab.ext g.h
  nt := g.nt
theorem Grown.step {G H G' H' : Hp} {σ : L2.St} (g : Grown G H G' H') : Step σ Γ Γ G H G' H' := ⟨g.g, fun a o h => (g.f a o h).imp id Nl.none, fun a o h _ _ => g.h a o h, fun _ h => h, fun a vs h => ⟨vs, g.h a _ h⟩⟩
theorem de_call (Gf : FnOk X.prog X.w X.K X.mg X.base (L2.CX X.prog X.w) k f fd ps (spP X.K R)) (hr : Room k X.A) (hm : X.mg x = some (.ref f)) (hk : PySem.W.keepIn X.K (.ref f) = true) (hb : Binds X.K fd ps []) (ha : PA X (e :: es) (tDA X.K F Γ rs Γ1)) (hR : R ds (.ok d)) (hd : datS rs = some ds := by rfl)
    (hg : Gl X x := by rfl) (hdb : (x == ("__debug__" : Str)) = false := by decide) (he : starEach (e :: es) X.env = (false, eval e X.env) :: starEach es X.env := by rfl) (hpl : (backTo pos (starEach es X.env)).any (·.1) = false := by rfl) :
    PE X (.Call (.Name x p) (e :: es) [] pos) (tD X.K F Γ (.dat d) Γ1) :=
  pe_imp (pe_callS (E := WE fun _ _ _ _ => False) Gf hr hg hm hk hb (fun σ => passAt takes0 σ) ha hdb he hpl) fun σ H Q ⟨G, E, q⟩ => ⟨G, E, fun vs H1 G1 s1 E1 v1 =>
    ⟨G1, ds, .ok d, E1.le, E1.nt, datS_dp v1 hd, hR, fun v H' G' g hv => q v H' G' (s1.trans g.step) (E1.grown g) hv⟩⟩
end
end AM

set_option Elab.async false
set_option linter.all false
set_option maxRecDepth 100000
set_option maxHeartbeats 2000000
namespace AM
open PySem PySem.Spec PyProof.Rows L2
section
variable {X : Cx} {F : Fx} {W : WX} {Γ Γ1 Γ2 : List Sl} {P : Out → Prop} {rest body orelse : List Stmt} {e a b c : Expr} {es : List Expr} {pos pos' p p2 : Pos} {d da db : PyData} {ra rb rc : Rv} {rs : List Rv} {xs ds : List PyData} {x : Str}
def RDC (K : PySem.W.Frag) (F : Fx) (Γ : List Sl) (r : List V → Hp → VK → Prop) (rs : List Rv) (rc : Rv) : Prop := ∀ G H σ vs (Q : VK), En K F G σ H Γ → Paired (fun v r => VR K G σ v r) vs rs →
  (∀ v H' G', Step σ Γ Γ G H G' H' → En K F G' σ H' Γ → VR K G' σ v rc → Q v H') → r vs H Q
def RNC (K : PySem.W.Frag) (F : Fx) (Γ : List Sl) (r : List V → Hp → VK → Prop) (rs : List Rv) (xs : List PyData) : Prop := ∀ G H σ vs (Q : VK), En K F G σ H Γ → Paired (fun v r => VR K G σ v r) vs rs →
  (∀ p vs H' G', Step σ Γ Γ G H G' H' → En K F G' σ H' Γ → Fre F H p → G' p = none → H' p = some (.lst vs) → DqAll K G' vs xs → Q (.ref p) H') → r vs H Q
theorem td_cb {K : PySem.W.Frag} {r : List V → Hp → VK → Prop} (h : RDC K F Γ1 r rs rc) {σ : L2.St} {H : Hp} {Q : VK} (q : tD K F Γ rc Γ1 σ H Q) : tCB r (tDA K F Γ rs Γ1) σ H Q := by
  obtain ⟨G, E, k⟩ := q
  exact ⟨G, E, fun vs H1 G1 s1 E1 v1 => h G1 H1 σ vs Q E1 v1 fun v H2 G2 s2 E2 v2 => k v H2 G2 (s1.trans s2) E2 v2⟩
theorem tn_cb {K : PySem.W.Frag} {r : List V → Hp → VK → Prop} (h : RNC K F Γ1 r rs xs) {σ : L2.St} {H : Hp} {Q : VK} (q : tN K F Γ xs Γ1 σ H Q) : tCB r (tDA K F Γ rs Γ1) σ H Q := by
  obtain ⟨G, E, k⟩ := q
  exact ⟨G, E, fun vs H1 G1 s1 E1 v1 => h G1 H1 σ vs Q E1 v1 fun p vs H2 G2 s2 E2 h1 h2 h3 h4 => k p vs H2 G2 (s1.trans s2) E2 (h1.back s1) h2 h3 h4⟩
theorem de_callB {id : String} {r : List V → Hp → VK → Prop} (hc : CallR X (.builtin id) r) (h : RDC X.K F Γ1 r rs rc) (ha : PA X (e :: es) (tDA X.K F Γ rs Γ1)) (hm : X.mg x = none) (hv : bootBuiltins x = some (.builtin id)) (hg : Gl X x := by rfl) (hn : x ≠ "__name__" := by decide) (hdb : (x == ("__debug__" : Str)) = false := by decide)
    (he : starEach (e :: es) X.env = (false, eval e X.env) :: starEach es X.env := by rfl) (hpl : (backTo pos (starEach es X.env)).any (·.1) = false := by rfl) : PE X (.Call (.Name x p) (e :: es) [] pos) (tD X.K F Γ rc Γ1) :=
  pe_imp (pe_callB hc hg hm hv ha hn hdb he hpl) fun _ _ _ q => td_cb h q
theorem de_callTy {id : String} {r : List V → Hp → VK → Prop} (hc : CallR X (.type id) r) (h : RDC X.K F Γ1 r rs rc) (ha : PA X (e :: es) (tDA X.K F Γ rs Γ1)) (hm : X.mg x = none) (hv : bootBuiltins x = some (.type id)) (hg : Gl X x := by rfl) (hn : x ≠ "__name__" := by decide) (hdb : (x == ("__debug__" : Str)) = false := by decide)
    (he : starEach (e :: es) X.env = (false, eval e X.env) :: starEach es X.env := by rfl) (hpl : (backTo pos (starEach es X.env)).any (·.1) = false := by rfl) : PE X (.Call (.Name x p) (e :: es) [] pos) (tD X.K F Γ rc Γ1) :=
  pe_imp (pe_callTy hc hg hm hv ha hn hdb he hpl) fun _ _ _ q => td_cb h q
theorem dn_callB {id : String} {r : List V → Hp → VK → Prop} (hc : CallR X (.builtin id) r) (h : RNC X.K F Γ1 r rs xs) (ha : PA X (e :: es) (tDA X.K F Γ rs Γ1)) (hm : X.mg x = none) (hv : bootBuiltins x = some (.builtin id)) (hg : Gl X x := by rfl) (hn : x ≠ "__name__" := by decide) (hdb : (x == ("__debug__" : Str)) = false := by decide)
    (he : starEach (e :: es) X.env = (false, eval e X.env) :: starEach es X.env := by rfl) (hpl : (backTo pos (starEach es X.env)).any (·.1) = false := by rfl) : PE X (.Call (.Name x p) (e :: es) [] pos) (tN X.K F Γ xs Γ1) :=
  pe_imp (pe_callB hc hg hm hv ha hn hdb he hpl) fun _ _ _ q => tn_cb h q
theorem dn_callTy {id : String} {r : List V → Hp → VK → Prop} (hc : CallR X (.type id) r) (h : RNC X.K F Γ1 r rs xs) (ha : PA X (e :: es) (tDA X.K F Γ rs Γ1)) (hm : X.mg x = none) (hv : bootBuiltins x = some (.type id)) (hg : Gl X x := by rfl) (hn : x ≠ "__name__" := by decide) (hdb : (x == ("__debug__" : Str)) = false := by decide)
    (he : starEach (e :: es) X.env = (false, eval e X.env) :: starEach es X.env := by rfl) (hpl : (backTo pos (starEach es X.env)).any (·.1) = false := by rfl) : PE X (.Call (.Name x p) (e :: es) [] pos) (tN X.K F Γ xs Γ1) :=
  pe_imp (pe_callTy hc hg hm hv ha hn hdb he hpl) fun _ _ _ q => tn_cb h q
section
variable {K : PySem.W.Frag}
theorem paired1 {α β : Type} {R : α → β → Prop} {vs : List α} {r : β} (h : Paired R vs [r]) : ∃ v, vs = [v] ∧ R v r := by
  cases h with
  | cons p q => cases q; exact ⟨_, rfl, p⟩
theorem paired2 {α β : Type} {R : α → β → Prop} {vs : List α} {r r2 : β} (h : Paired R vs [r, r2]) : ∃ v w, vs = [v, w] ∧ R v r ∧ R w r2 := by
  cases h with
  | cons p q => cases q with
    | cons p2 q => cases q; exact ⟨_, _, rfl, p, p2⟩
theorem paired3 {α β : Type} {R : α → β → Prop} {vs : List α} {r r2 r3 : β} (h : Paired R vs [r, r2, r3]) : ∃ v w u, vs = [v, w, u] ∧ R v r ∧ R w r2 ∧ R u r3 := by
  cases h with
  | cons p q => cases q with
    | cons p2 q => cases q with
      | cons p3 q => cases q; exact ⟨_, _, _, rfl, p, p2, p3⟩
theorem rc_abs {i : Int} : RDC K F Γ (fun xs H Q => ∃ i, xs = [.int i] ∧ Q (.int (if i < 0 then -i else i)) H) [.dat (.int i)] (.dat (.int (i.natAbs : Int))) := fun G H σ vs Q E pv k => by
  obtain ⟨v, rfl, h⟩ := paired1 pv
  refine ⟨i, by rw [dp_int h], k _ H G Step.refl E ?_⟩
  have : (if i < 0 then -i else i) = (i.natAbs : Int) := by split <;> omega
  rw [this]
  exact .int _
theorem rc_max2 {i j : Int} : RDC K F Γ (fun xs H Q => ∃ i j, xs = [.int i, .int j] ∧ Q (.int (if j > i then j else i)) H) [.dat (.int i), .dat (.int j)] (.dat (.int (max i j))) := fun G H σ vs Q E pv k => by
  obtain ⟨v, w, rfl, h, h2⟩ := paired2 pv
  refine ⟨i, j, by rw [dp_int h, dp_int h2], k _ H G Step.refl E ?_⟩
  have : (if j > i then j else i) = max i j := by split <;> omega
  rw [this]
  exact .int _
theorem rc_min2 {i j : Int} : RDC K F Γ (fun xs H Q => ∃ i j, xs = [.int i, .int j] ∧ Q (.int (if j < i then j else i)) H) [.dat (.int i), .dat (.int j)] (.dat (.int (min i j))) := fun G H σ vs Q E pv k => by
  obtain ⟨v, w, rfl, h, h2⟩ := paired2 pv
  refine ⟨i, j, by rw [dp_int h, dp_int h2], k _ H G Step.refl E ?_⟩
  have : (if j < i then j else i) = min i j := by split <;> omega
  rw [this]
  exact .int _
theorem seq_of {G H : Hp} {σ : L2.St} (E : En K F G σ H Γ) {v : V} (h : VR K G σ v ra) (va : vw Γ ra = some da) (hs : sqOf da = some ds) :
    ∃ p vs, v = .ref p ∧ ((da = .list ds ∧ Rd H p (.lst vs)) ∨ (da = .tuple ds ∧ SqT K H p vs)) ∧ DqAll K G vs ds := by
  cases ra with
  | dat d' =>
    have : d' = da := Option.some.inj va
    subst this
    have h : Dq K G v d' := h
    cases h with
    | lst q al => cases hs; exact ⟨_, _, rfl, .inl ⟨rfl, rd_mono E.le (.inl q)⟩, al⟩
    | tup q al => cases hs; exact ⟨_, _, rfl, .inr ⟨rfl, sqT_mono E.le q⟩, al⟩
    | _ => cases hs
  | al j =>
    have s := E.sl j
    have va : vwS (lk Γ j) = some da := va
    have h : σ[j]? = some (some v) := h
    cases q : lk Γ j with
    | no => rw [q] at va; cases va
    | dat d' =>
      rw [q] at va s
      have : d' = da := Option.some.inj va
      subst this
      obtain ⟨v', e1, hd'⟩ := s
      rw [h] at e1
      cases e1
      clear q
      cases hd' with
      | lst q al => cases hs; exact ⟨_, _, rfl, .inl ⟨rfl, rd_mono E.le (.inl q)⟩, al⟩
      | tup q al => cases hs; exact ⟨_, _, rfl, .inr ⟨rfl, sqT_mono E.le q⟩, al⟩
      | _ => cases hs
    | own ys =>
      rw [q] at va s
      have : PyData.list ys = da := Option.some.inj va
      subst this
      cases hs
      obtain ⟨p, vs, e1, g, hp, ha, _⟩ := s
      rw [h] at e1
      cases e1
      exact ⟨p, vs, rfl, .inl ⟨rfl, .inl hp⟩, ha⟩
theorem rc_len (va : vw Γ ra = some da) (hs : sqOf da = some ds) : RDC K F Γ (fun xs H Q => ∃ p ys, xs = [.ref p] ∧ (SqL K H p ys ∨ SqT K H p ys) ∧ Q (.int ys.length) H) [ra] (.dat (.int (ds.length : Int))) := fun G H σ vs Q E pv k => by
  obtain ⟨v, rfl, h⟩ := paired1 pv
  obtain ⟨p, vs, rfl, alt, al⟩ := seq_of E h va hs
  refine ⟨p, vs, rfl, ?_, k _ H G Step.refl E ?_⟩
  · rcases alt with ⟨_, q⟩ | ⟨_, q⟩
    · exact .inl (.inl q)
    · exact .inr q
  · rw [dpa_len al]; exact .int _
theorem rc_int1 {k : Bool} : RDC K F Γ (fun xs H Q => (∃ i, xs = [.int i] ∧ Q (.int i) H) ∨ ∃ k, xs = [.bl k] ∧ Q (.int (if k then 1 else 0)) H) [.dat (.bool k)] (.dat (.int (if k then 1 else 0))) := fun G H σ vs Q E pv q => by
  obtain ⟨v, rfl, h⟩ := paired1 pv
  exact .inr ⟨k, by rw [dp_bl h], q _ H G Step.refl E (.int _)⟩
theorem rc_tuple (va : vw Γ ra = some da) (hs : sqOf da = some ds) : RDC K F Γ (fun xs H Q => ∃ p ys, xs = [.ref p] ∧ ((SqL K H p ys ∧ ∀ l, H l = none → Q (.ref l) (upd H l (.tup ys))) ∨ (SqT K H p ys ∧ Q (.ref p) H))) [ra] (.dat (.tuple ds)) := fun G H σ vs Q E pv k => by
  obtain ⟨v, rfl, h⟩ := paired1 pv
  obtain ⟨p, vs, rfl, alt, al⟩ := seq_of E h va hs
  refine ⟨p, vs, rfl, ?_⟩
  rcases alt with ⟨e, q⟩ | ⟨e, q⟩
  · refine .inl ⟨.inl q, fun l hl => ?_⟩
    have g := (E.no hl).2.2
    exact k _ _ _ (Step.newDat hl g) (E.newDat hl) (.tup (SqT.of upd_same) (dpa_mono (same_upd g) _ _ al))
  · refine .inr ⟨q, k _ H G Step.refl E ?_⟩
    subst e
    -- the tuple itself: data it was
    cases ra with
    | dat d' =>
      have : d' = .tuple ds := Option.some.inj va
      subst this
      exact h
    | al j =>
      have s := E.sl j
      have va : vwS (lk Γ j) = some (.tuple ds) := va
      have h : σ[j]? = some (some (.ref p)) := h
      cases q : lk Γ j with
      | no => rw [q] at va; cases va
      | dat d' =>
        rw [q] at va s
        have : d' = .tuple ds := Option.some.inj va
        subst this
        obtain ⟨v', e1, hd'⟩ := s
        rw [h] at e1
        cases e1
        exact hd'
      | own ys => rw [q] at va; cases va
theorem rc_list (va : vw Γ ra = some da) (hs : sqOf da = some ds) : RNC K F Γ (fun xs H Q => ∃ p ys, xs = [.ref p] ∧ (SqL K H p ys ∨ SqT K H p ys) ∧ ∀ l, H l = none → Q (.ref l) (upd H l (.lst ys))) [ra] ds := fun G H σ vs Q E pv k => by
  obtain ⟨v, rfl, h⟩ := paired1 pv
  obtain ⟨p, vs, rfl, alt, al⟩ := seq_of E h va hs
  refine ⟨p, vs, rfl, ?_, fun l hl => k l vs _ G (Step.newRaw hl) (E.newRaw hl) (fre_of Step.refl E hl) (E.no hl).2.2 upd_same al⟩
  rcases alt with ⟨_, q⟩ | ⟨_, q⟩
  · exact .inl (.inl q)
  · exact .inr q
theorem rc_all {bs : List Bool} (va : vw Γ ra = some (.list (bs.map .bool))) : RDC K F Γ (rAll K) [ra] (.dat (.bool (bs.all id))) := fun G H σ vs Q E pv k => by
  obtain ⟨v, rfl, h⟩ := paired1 pv
  obtain ⟨p, vs, rfl, alt, al⟩ := seq_of E h va rfl
  rcases alt with ⟨_, q⟩ | ⟨e, _⟩
  · rw [dpa_bls al] at q
    exact ⟨p, bs, rfl, .inl q, k _ H G Step.refl E (.bl _)⟩
  · cases e
theorem rc_any {bs : List Bool} (va : vw Γ ra = some (.list (bs.map .bool))) : RDC K F Γ (rAny K) [ra] (.dat (.bool (bs.any id))) := fun G H σ vs Q E pv k => by
  obtain ⟨v, rfl, h⟩ := paired1 pv
  obtain ⟨p, vs, rfl, alt, al⟩ := seq_of E h va rfl
  rcases alt with ⟨_, q⟩ | ⟨e, _⟩
  · rw [dpa_bls al] at q
    exact ⟨p, bs, rfl, .inl q, k _ H G Step.refl E (.bl _)⟩
  · cases e
theorem rc_sum {ns : List Int} (va : vw Γ ra = some (.list (ns.map .int))) : RDC K F Γ (rSum K) [ra] (.dat (.int ns.sum)) := fun G H σ vs Q E pv k => by
  obtain ⟨v, rfl, h⟩ := paired1 pv
  obtain ⟨p, vs, rfl, alt, al⟩ := seq_of E h va rfl
  rcases alt with ⟨_, q⟩ | ⟨e, _⟩
  · rw [dpa_ints al] at q
    exact ⟨p, ns, rfl, .inl q, k _ H G Step.refl E (.int _)⟩
  · cases e
end
theorem de_abs {i : Int} (ha : PE X a (tD X.K F Γ (.dat (.int i)) Γ1)) (hm : X.mg "abs" = none) (hg : Gl X "abs" := by rfl) (he : starEach [a] X.env = (false, eval a X.env) :: starEach [] X.env := by rfl) : PE X (.Call (.Name "abs" p) [a] [] pos) (tD X.K F Γ (.dat (.int (i.natAbs : Int))) Γ1) :=
  de_callB call_abs rc_abs (da_cons ha da_nil he) hm (by decide +kernel) hg (he := he)
theorem de_len (ha : PE X a (tD X.K F Γ ra Γ1)) (hm : X.mg "len" = none) (va : vw Γ1 ra = some da := by rfl) (hs : sqOf da = some ds := by rfl) (hg : Gl X "len" := by rfl) (he : starEach [a] X.env = (false, eval a X.env) :: starEach [] X.env := by rfl) : PE X (.Call (.Name "len" p) [a] [] pos) (tD X.K F Γ (.dat (.int (ds.length : Int))) Γ1) :=
  de_callB call_len_seq (rc_len va hs) (da_cons ha da_nil he) hm PySem.boot_len hg (he := he)
theorem de_tuple (ha : PE X a (tD X.K F Γ ra Γ1)) (hm : X.mg "tuple" = none) (va : vw Γ1 ra = some da := by rfl) (hs : sqOf da = some ds := by rfl) (hg : Gl X "tuple" := by rfl) (he : starEach [a] X.env = (false, eval a X.env) :: starEach [] X.env := by rfl) : PE X (.Call (.Name "tuple" p) [a] [] pos) (tD X.K F Γ (.dat (.tuple ds)) Γ1) :=
  de_callTy call_tuple_of (rc_tuple va hs) (da_cons ha da_nil he) hm (by decide +kernel) hg (he := he)
theorem dn_list (ha : PE X a (tD X.K F Γ ra Γ1)) (hm : X.mg "list" = none) (va : vw Γ1 ra = some da := by rfl) (hs : sqOf da = some ds := by rfl) (hg : Gl X "list" := by rfl) (he : starEach [a] X.env = (false, eval a X.env) :: starEach [] X.env := by rfl) : PE X (.Call (.Name "list" p) [a] [] pos) (tN X.K F Γ ds Γ1) :=
  dn_callTy call_list_of (rc_list va hs) (da_cons ha da_nil he) hm (by decide +kernel) hg (he := he)
theorem de_all {bs : List Bool} (ha : PE X a (tD X.K F Γ ra Γ1)) (hm : X.mg "all" = none) (va : vw Γ1 ra = some (.list (bs.map .bool)) := by rfl) (hc : X.calm = true := by rfl) (hg : Gl X "all" := by rfl) (he : starEach [a] X.env = (false, eval a X.env) :: starEach [] X.env := by rfl) : PE X (.Call (.Name "all" p) [a] [] pos) (tD X.K F Γ (.dat (.bool (bs.all id))) Γ1) :=
  de_callB (cr_all hc) (rc_all va) (da_cons ha da_nil he) hm (by decide +kernel) hg (he := he)
theorem de_any {bs : List Bool} (ha : PE X a (tD X.K F Γ ra Γ1)) (hm : X.mg "any" = none) (va : vw Γ1 ra = some (.list (bs.map .bool)) := by rfl) (hc : X.calm = true := by rfl) (hg : Gl X "any" := by rfl) (he : starEach [a] X.env = (false, eval a X.env) :: starEach [] X.env := by rfl) : PE X (.Call (.Name "any" p) [a] [] pos) (tD X.K F Γ (.dat (.bool (bs.any id))) Γ1) :=
  de_callB (cr_any hc) (rc_any va) (da_cons ha da_nil he) hm (by decide +kernel) hg (he := he)
theorem de_sum {ns : List Int} (ha : PE X a (tD X.K F Γ ra Γ1)) (hm : X.mg "sum" = none) (va : vw Γ1 ra = some (.list (ns.map .int)) := by rfl) (hc : X.calm = true := by rfl) (hg : Gl X "sum" := by rfl) (he : starEach [a] X.env = (false, eval a X.env) :: starEach [] X.env := by rfl) : PE X (.Call (.Name "sum" p) [a] [] pos) (tD X.K F Γ (.dat (.int ns.sum)) Γ1) :=
  de_callB (cr_sum hc) (rc_sum va) (da_cons ha da_nil he) hm (by decide +kernel) hg (he := he)
theorem de_max2 {i j : Int} (ha : PE X a (tD X.K F Γ (.dat (.int i)) Γ1)) (hb : PE X b (tD X.K F Γ1 (.dat (.int j)) Γ2)) (hm : X.mg "max" = none) (hc : X.calm = true := by rfl) (hg : Gl X "max" := by rfl) (he : starEach [a, b] X.env = (false, eval a X.env) :: starEach [b] X.env := by rfl) (he2 : starEach [b] X.env = (false, eval b X.env) :: starEach [] X.env := by rfl) (hpl : (backTo pos (starEach [b] X.env)).any (·.1) = false := by rfl) :
    PE X (.Call (.Name "max" p) [a, b] [] pos) (tD X.K F Γ (.dat (.int (max i j))) Γ2) := de_callB (call_max2 hc) rc_max2 (da_cons ha (da_cons hb da_nil he2) he) hm (by decide +kernel) hg (he := he) (hpl := hpl)
theorem de_min2 {i j : Int} (ha : PE X a (tD X.K F Γ (.dat (.int i)) Γ1)) (hb : PE X b (tD X.K F Γ1 (.dat (.int j)) Γ2)) (hm : X.mg "min" = none) (hc : X.calm = true := by rfl) (hg : Gl X "min" := by rfl) (he : starEach [a, b] X.env = (false, eval a X.env) :: starEach [b] X.env := by rfl) (he2 : starEach [b] X.env = (false, eval b X.env) :: starEach [] X.env := by rfl) (hpl : (backTo pos (starEach [b] X.env)).any (·.1) = false := by rfl) :
    PE X (.Call (.Name "min" p) [a, b] [] pos) (tD X.K F Γ (.dat (.int (min i j))) Γ2) := de_callB (call_min2 hc) rc_min2 (da_cons ha (da_cons hb da_nil he2) he) hm (by decide +kernel) hg (he := he) (hpl := hpl)
theorem de_intB {k : Bool} (ha : PE X a (tD X.K F Γ (.dat (.bool k)) Γ1)) (hm : X.mg "int" = none) (hg : Gl X "int" := by rfl) (he : starEach [a] X.env = (false, eval a X.env) :: starEach [] X.env := by rfl) : PE X (.Call (.Name "int" p) [a] [] pos) (tD X.K F Γ (.dat (.int (if k then 1 else 0))) Γ1) :=
  de_callTy call_int1 rc_int1 (da_cons ha da_nil he) hm (by decide +kernel) hg (he := he)
def tyD : PyData → String
  | .none => "NoneType"
  | .bool _ => "bool"
  | .int _ => "int"
  | .str _ => "str"
  | .list _ => "list"
  | .tuple _ => "tuple"
  | .dict _ => "dict"
theorem dq_ty {K : PySem.W.Frag} {H : Hp} {v : V} (h : Dq K H v d) : TyX K H v (.type (tyD d)) := by
  cases h with
  | non => exact .base .non
  | bl b => exact .base (.bl b)
  | int i => exact .base (.int i)
  | str x => exact .base (.str x)
  | lst q _ => exact .base (.lst q)
  | tup q _ =>
    rcases q with (q | ⟨o, q⟩) | ⟨o, its, n, h1, h2, _⟩
    · exact .base (.tup q)
    · exact .fTuple q
    · exact .kTuple h1 h2
def isiD (T : String) (d : PyData) : Bool := (kitB (tyD d) T).getD false
theorem kit_isi (T : String) (hT : T = "int" ∨ T = "bool" ∨ T = "str" ∨ T = "list" ∨ T = "tuple") (d : PyData) : kitB (tyD d) T = some (isiD T d) := by
  have key : ∀ T ∈ ["int", "bool", "str", "list", "tuple"], ∀ U ∈ ["NoneType", "bool", "int", "str", "list", "tuple", "dict"], kitB U T = some ((kitB U T).getD false) := by decide +kernel
  have hU : tyD d ∈ ["NoneType", "bool", "int", "str", "list", "tuple", "dict"] := by cases d <;> simp [tyD]
  exact key T (by rcases hT with h | h | h | h | h <;> simp [h]) _ hU
def isI : PyData → Bool
  | .bool _ => true
  | .int _ => true
  | _ => false
def isB : PyData → Bool
  | .bool _ => true
  | _ => false
def isS : PyData → Bool
  | .str _ => true
  | _ => false
def isL : PyData → Bool
  | .list _ => true
  | _ => false
def isT : PyData → Bool
  | .tuple _ => true
  | _ => false
theorem isi_int (d : PyData) : isiD "int" d = isI d := by
  cases d with
  | none => exact (by decide +kernel : (kitB "NoneType" "int").getD false = false)
  | bool b => exact (by decide +kernel : (kitB "bool" "int").getD false = true)
  | int i => exact (by decide +kernel : (kitB "int" "int").getD false = true)
  | str x => exact (by decide +kernel : (kitB "str" "int").getD false = false)
  | list l => exact (by decide +kernel : (kitB "list" "int").getD false = false)
  | tuple l => exact (by decide +kernel : (kitB "tuple" "int").getD false = false)
  | dict l => exact (by decide +kernel : (kitB "dict" "int").getD false = false)
theorem isi_bool (d : PyData) : isiD "bool" d = isB d := by
  cases d with
  | none => exact (by decide +kernel : (kitB "NoneType" "bool").getD false = false)
  | bool b => exact (by decide +kernel : (kitB "bool" "bool").getD false = true)
  | int i => exact (by decide +kernel : (kitB "int" "bool").getD false = false)
  | str x => exact (by decide +kernel : (kitB "str" "bool").getD false = false)
  | list l => exact (by decide +kernel : (kitB "list" "bool").getD false = false)
  | tuple l => exact (by decide +kernel : (kitB "tuple" "bool").getD false = false)
  | dict l => exact (by decide +kernel : (kitB "dict" "bool").getD false = false)
theorem isi_str (d : PyData) : isiD "str" d = isS d := by
  cases d with
  | none => exact (by decide +kernel : (kitB "NoneType" "str").getD false = false)
  | bool b => exact (by decide +kernel : (kitB "bool" "str").getD false = false)
  | int i => exact (by decide +kernel : (kitB "int" "str").getD false = false)
  | str x => exact (by decide +kernel : (kitB "str" "str").getD false = true)
  | list l => exact (by decide +kernel : (kitB "list" "str").getD false = false)
  | tuple l => exact (by decide +kernel : (kitB "tuple" "str").getD false = false)
  | dict l => exact (by decide +kernel : (kitB "dict" "str").getD false = false)
theorem isi_list (d : PyData) : isiD "list" d = isL d := by
  cases d with
  | none => exact (by decide +kernel : (kitB "NoneType" "list").getD false = false)
  | bool b => exact (by decide +kernel : (kitB "bool" "list").getD false = false)
  | int i => exact (by decide +kernel : (kitB "int" "list").getD false = false)
  | str x => exact (by decide +kernel : (kitB "str" "list").getD false = false)
  | list l => exact (by decide +kernel : (kitB "list" "list").getD false = true)
  | tuple l => exact (by decide +kernel : (kitB "tuple" "list").getD false = false)
  | dict l => exact (by decide +kernel : (kitB "dict" "list").getD false = false)
theorem isi_tuple (d : PyData) : isiD "tuple" d = isT d := by
  cases d with
  | none => exact (by decide +kernel : (kitB "NoneType" "tuple").getD false = false)
  | bool b => exact (by decide +kernel : (kitB "bool" "tuple").getD false = false)
  | int i => exact (by decide +kernel : (kitB "int" "tuple").getD false = false)
  | str x => exact (by decide +kernel : (kitB "str" "tuple").getD false = false)
  | list l => exact (by decide +kernel : (kitB "list" "tuple").getD false = false)
  | tuple l => exact (by decide +kernel : (kitB "tuple" "tuple").getD false = true)
  | dict l => exact (by decide +kernel : (kitB "dict" "tuple").getD false = false)
theorem de_isi (T : String) (hT : T = "int" ∨ T = "bool" ∨ T = "str" ∨ T = "list" ∨ T = "tuple") {t : Str} (ha : PE X a (tD X.K F Γ ra Γ1)) (hm : X.mg "isinstance" = none) (hmT : X.mg t = none) (hvT : bootBuiltins t = some (.type T)) (va : vw Γ1 ra = some da := by rfl)
    (hg : Gl X "isinstance" := by rfl) (hgT : Gl X t := by rfl) (hn : t ≠ "__name__" := by decide) (hdb : (t == ("__debug__" : Str)) = false := by decide)
    (he : starEach [a, .Name t p2] X.env = (false, eval a X.env) :: starEach [.Name t p2] X.env := by rfl) (he2 : starEach [.Name t p2] X.env = (false, eval (.Name t p2) X.env) :: starEach [] X.env := by rfl) (hpl : (backTo pos (starEach [.Name t p2] X.env)).any (·.1) = false := by rfl) :
    PE X (.Call (.Name "isinstance" p) [a, .Name t p2] [] pos) (tD X.K F Γ (.dat (.bool (isiD T da))) Γ1) := by
  have hA : PA X [a, .Name t p2] _ := pa_cons ha (pa_cons (pe_bltn (v := .ty T) (pos := p2) hgT hmT hvT rfl hn hdb) pa_nil he2) he
  refine pe_imp (pe_callB call_isi hg hm (by decide +kernel) hA (he := he) (hpl := hpl)) fun σ H Q ⟨G, E, q⟩ => ⟨G, E, fun v H1 G1 s1 E1 v1 => ?_⟩
  exact ⟨v, .ty T, _, _, _, rfl, .ty T, dq_ty (E1.view v1 va), kit_ty (kit_isi T hT da), q _ H1 G1 s1 E1 (.bl _)⟩
structure TyN (X : Cx) (t : Str) (T : String) : Prop where
  ok : T = "int" ∨ T = "bool" ∨ T = "str" ∨ T = "list" ∨ T = "tuple"
  mg : X.mg t = none
  bt : bootBuiltins t = some (.type T)
theorem kitAny_isi {K : PySem.W.Frag} (d : PyData) : ∀ (Ts : List String), (∀ T ∈ Ts, T = "int" ∨ T = "bool" ∨ T = "str" ∨ T = "list" ∨ T = "tuple") → PySem.W.kitAny K (.type (tyD d)) (Ts.map Value.type) = some (Ts.any fun T => isiD T d)
  | [], _ => rfl
  | T :: Ts, h => by
    have h1 := kit_isi T (h T List.mem_cons_self) d
    have h2 := kitAny_isi (K := K) d Ts fun T' m => h T' (List.mem_cons_of_mem _ m)
    refine kitAny_cons (kit_ty h1) (fun e => ?_) (fun e => ?_)
    · rw [h2, List.any_cons, e, Bool.false_or]
    · rw [List.any_cons, e, Bool.true_or]
theorem paired_ty : ∀ Ts : List String, Paired ClsV (Ts.map V.ty) (Ts.map Value.type)
  | [] => .nil
  | T :: Ts => .cons (.ty T) (paired_ty Ts)
theorem de_isi3 (T1 T2 T3 : String) {t1 t2 t3 : Str} {q1 q2 q3 : Pos} {kk : Nat} (h1 : TyN X t1 T1) (h2 : TyN X t2 T2) (h3 : TyN X t3 T3) (ha : PE X a (tD X.K F Γ ra Γ1)) (hm : X.mg "isinstance" = none) (va : vw Γ1 ra = some da := by rfl)
    (hg : Gl X "isinstance" := by rfl) (hg1 : Gl X t1 := by rfl) (hg2 : Gl X t2 := by rfl) (hg3 : Gl X t3 := by rfl) (hn : t1 ≠ "__name__" ∧ t2 ≠ "__name__" ∧ t3 ≠ "__name__" := by decide) (hdb : (t1 == ("__debug__" : Str)) = false ∧ (t2 == ("__debug__" : Str)) = false ∧ (t3 == ("__debug__" : Str)) = false := by decide)
    (he : starEach [a, .Tuple [.Name t1 q1, .Name t2 q2, .Name t3 q3] kk p2] X.env = (false, eval a X.env) :: starEach [.Tuple [.Name t1 q1, .Name t2 q2, .Name t3 q3] kk p2] X.env := by rfl) (he2 : starEach [.Tuple [.Name t1 q1, .Name t2 q2, .Name t3 q3] kk p2] X.env = (false, eval (.Tuple [.Name t1 q1, .Name t2 q2, .Name t3 q3] kk p2) X.env) :: starEach [] X.env := by rfl)
    (he3 : starEach [.Name t1 q1, .Name t2 q2, .Name t3 q3] X.env = (false, eval (.Name t1 q1) X.env) :: starEach [.Name t2 q2, .Name t3 q3] X.env := by rfl) (he4 : starEach [.Name t2 q2, .Name t3 q3] X.env = (false, eval (.Name t2 q2) X.env) :: starEach [.Name t3 q3] X.env := by rfl) (he5 : starEach [.Name t3 q3] X.env = (false, eval (.Name t3 q3) X.env) :: starEach [] X.env := by rfl)
    (hpl : (backTo pos (starEach [.Tuple [.Name t1 q1, .Name t2 q2, .Name t3 q3] kk p2] X.env)).any (·.1) = false := by rfl) :
    PE X (.Call (.Name "isinstance" p) [a, .Tuple [.Name t1 q1, .Name t2 q2, .Name t3 q3] kk p2] [] pos) (tD X.K F Γ (.dat (.bool ([T1, T2, T3].any fun T => isiD T da))) Γ1) := by
  have hT : PE X (.Tuple [.Name t1 q1, .Name t2 q2, .Name t3 q3] kk p2) _ := pe_tup (pa_cons (pe_bltn (v := .ty T1) hg1 h1.mg h1.bt rfl hn.1 hdb.1) (pa_cons (pe_bltn (v := .ty T2) hg2 h2.mg h2.bt rfl hn.2.1 hdb.2.1) (pa_cons (pe_bltn (v := .ty T3) hg3 h3.mg h3.bt rfl hn.2.2 hdb.2.2) pa_nil he5) he4) he3)
  have hA : PA X [a, .Tuple [.Name t1 q1, .Name t2 q2, .Name t3 q3] kk p2] _ := pa_cons ha (pa_cons hT pa_nil he2) he
  refine pe_imp (pe_callB call_isiT hg hm (by decide +kernel) hA (he := he) (hpl := hpl)) fun σ H Q ⟨G, E, q⟩ => ⟨G, E, fun v H1 G1 s1 E1 v1 => ⟨by show 3 ≤ sizeLine; decide, fun tp htp => ?_⟩⟩
  have E2 := E1.newRaw (o := .tup [.ty T1, .ty T2, .ty T3]) htp
  refine ⟨v, tp, [T1, T2, T3].map V.ty, _, [T1, T2, T3].map Value.type, _, rfl, upd_same, paired_ty _, dq_ty (E2.view v1 va), kitAny_isi da [T1, T2, T3] ?_, q _ _ G1 (s1.trans (Step.newRaw htp)) E2 (.bl _)⟩
  intro T m
  rcases List.mem_cons.mp m with rfl | m
  · exact h1.ok
  · rcases List.mem_cons.mp m with rfl | m
    · exact h2.ok
    · rcases List.mem_cons.mp m with rfl | m
      · exact h3.ok
      · cases m
section
variable {K : PySem.W.Frag} {as bs : List PyData}
theorem dpa_nil_iff {G : Hp} {vs : List V} {ds : List PyData} (h : DqAll K G vs ds) : vs = [] ↔ ds = [] := by
  constructor
  · rintro rfl; cases h; rfl
  · rintro rfl; cases h; rfl
theorem rd_catT (hl : as.length + bs.length ≤ 100000) : RD2 K F Γ (rCatA K) (.dat (.tuple as)) (.dat (.tuple bs)) (.dat (.tuple (as ++ bs))) := fun G H σ x y Q E vx vy k => by
  obtain ⟨p1, v1, rfl, q1, a1⟩ := dp_tup vx
  obtain ⟨p2, v2, rfl, q2, a2⟩ := dp_tup vy
  refine ⟨p1, p2, v1, v2, rfl, rfl, sqT_mono E.le q1, sqT_mono E.le q2, ?_, fun e => ?_, fun _ e => ?_, fun _ _ l hl' => ?_⟩
  · rw [dpa_len a1, dpa_len a2]; exact Nat.le_trans hl (by decide)
  · have : as = [] := (dpa_nil_iff a1).mp e
    subst this
    exact k _ H G Step.refl E vy
  · have : bs = [] := (dpa_nil_iff a2).mp e
    subst this
    rw [List.append_nil] at k
    exact k _ H G Step.refl E vx
  · have g := (E.no hl').2.2
    exact k _ _ _ (Step.newDat hl' g) (E.newDat hl') (.tup (SqT.of upd_same) (dpa_mono (same_upd g) _ _ (dpa_app a1 a2)))
theorem dpa_flat {G : Hp} {vs : List V} {ds : List PyData} (h : DqAll K G vs ds) : ∀ n : Nat, DqAll K G (List.replicate n vs).flatten (List.replicate n ds).flatten
  | 0 => .nil
  | n + 1 => by
    rw [List.replicate_succ, List.replicate_succ, List.flatten_cons, List.flatten_cons]
    exact dpa_app h (dpa_flat h n)
def rCatR : R2 := fun x y H Q => ∃ l b xs zs, x = .ref l ∧ y = .ref b ∧ Rd H l (.lst xs) ∧ Rd H b (.lst zs) ∧ xs.length + zs.length ≤ sizeLine ∧ ∀ p, H p = none → Q (.ref p) (upd H p (.lst (xs ++ zs)))
theorem inv_rd {pins : List (Addr × Obj)} {σ : L2.St} {H : Hp} {s : Shared} (I : Inv X pins σ H s) {l : Addr} {xs : List V} (h : Rd H l (.lst xs)) : xs.length ≤ sizeLine ∧ ∃ (its : List Value) (n : Nat), Vals xs its ∧ xs.length = its.length ∧ s.heap.get? l = some { cls := .type "list", data := .seq its.toArray n } := by
  obtain ⟨z, its, n, r, e⟩ := h.ok I.hok
  exact ⟨z, its, n, r, r.length, e⟩
theorem op_catR : OpR X (binaryOp .Add) rCatR := by
  intro pins s σ H x y v u Q I rx ry h
  obtain ⟨l, b, xs, zs, rfl, rfl, hH, hB, hz, q⟩ := h
  cases rx
  cases ry
  obtain ⟨z, its, n, r, hl, e⟩ := inv_rd I hH
  obtain ⟨z2, its2, n2, r2, hl2, e2⟩ := inv_rd I hB
  refine PySem.P.add_list e e2 ?_ (by rw [List.size_toArray, List.size_toArray]; omega)
  have ea : its.toArray ++ its2.toArray = (its ++ its2).toArray := by simp
  rw [ea]
  exact ⟨.ref _, _, I.lnew (t' := s.toks) (r.append r2) (by rw [List.length_append]; omega), rfl, q _ I.fresh⟩
theorem rn_cat (va : vw Γ ra = some (.list as)) (vb : vw Γ rb = some (.list bs)) (hl : as.length + bs.length ≤ 100000) : RN2 K F Γ rCatR ra rb (as ++ bs) := fun G H σ x y Q E vx vy k => by
  obtain ⟨p1, v1, rfl, alt1, a1⟩ := seq_of E vx va rfl
  obtain ⟨p2, v2, rfl, alt2, a2⟩ := seq_of E vy vb rfl
  have r1 : Rd H p1 (.lst v1) := by
    rcases alt1 with ⟨_, q⟩ | ⟨e, _⟩
    · exact q
    · cases e
  have r2 : Rd H p2 (.lst v2) := by
    rcases alt2 with ⟨_, q⟩ | ⟨e, _⟩
    · exact q
    · cases e
  exact ⟨p1, p2, v1, v2, rfl, rfl, r1, r2, by rw [dpa_len a1, dpa_len a2]; exact Nat.le_trans hl (by decide), fun l hl' => k l _ _ G (Step.newRaw hl') (E.newRaw hl') (fre_of Step.refl E hl') (E.no hl').2.2 upd_same (dpa_app a1 a2)⟩
end
theorem de_catT {as bs : List PyData} (ha : PE X a (tD X.K F Γ (.dat (.tuple as)) Γ1)) (hb : PE X b (tD X.K F Γ1 (.dat (.tuple bs)) Γ2)) (hl : as.length + bs.length ≤ 100000) : PE X (.BinOp a .Add b pos) (tD X.K F Γ (.dat (.tuple (as ++ bs))) Γ2) := de_op op_catA (rd_catT hl) ha hb
theorem dn_cat {as bs : List PyData} (ha : PE X a (tD X.K F Γ ra Γ1)) (hb : PE X b (tD X.K F Γ1 rb Γ2)) (hl : as.length + bs.length ≤ 100000) (va : vw Γ2 ra = some (.list as) := by rfl) (vb : vw Γ2 rb = some (.list bs) := by rfl) : PE X (.BinOp a .Add b pos) (tN X.K F Γ (as ++ bs) Γ2) := dn_op op_catR (rn_cat va vb hl) ha hb
def cutD (xs : List PyData) (lo hi : Option Int) : List PyData := (xs.drop (HT.sIx xs.length 0 lo)).take (HT.sIx xs.length xs.length hi - HT.sIx xs.length 0 lo)
theorem dpa_cut {K : PySem.W.Frag} {G : Hp} {vs : List V} {ds : List PyData} (h : DqAll K G vs ds) (lo hi : Option Int) : DqAll K G (cutV vs lo hi) (cutD ds lo hi) := by
  unfold cutV cutD
  rw [dpa_len h]
  exact dpa_take _ (dpa_drop _ h)
def tDO (K : PySem.W.Frag) (F : Fx) (Γ : List Sl) (o : Option Int) (Γ' : List Sl) : TO := fun σ H Q => ∃ G, En K F G σ H Γ ∧ ∀ H' G', Step σ Γ Γ' G H G' H' → En K F G' σ H' Γ' → Q o H'
theorem do_none : PO X none (tDO X.K F Γ none Γ) := ⟨fun pins s σ H Q I ⟨G, E, q⟩ => po_none.run pins s σ H Q I (q H G Step.refl E)⟩
theorem do_some {i : Int} (h : PE X e (tD X.K F Γ (.dat (.int i)) Γ1)) : PO X (some e) (tDO X.K F Γ (some i) Γ1) := ⟨fun pins s σ H Q I ⟨G, E, q⟩ => (po_some h).run pins s σ H Q I ⟨G, E, fun v H1 G1 s1 E1 v1 => ⟨i, dp_int v1, q H1 G1 s1 E1⟩⟩⟩
theorem dn_slL {lo hi : Option Expr} {l h : Option Int} {Γ3 : List Sl} (ha : PE X a (tD X.K F Γ ra Γ1)) (hl : PO X lo (tDO X.K F Γ1 l Γ2)) (hh : PO X hi (tDO X.K F Γ2 h Γ3)) (va : vw Γ3 ra = some (.list ds) := by rfl) : PE X (.Subscript a (.Slice lo hi none p2) pos) (tN X.K F Γ (cutD ds l h) Γ3) :=
  pe_imp (pe_slice sl_list ha hl hh) fun σ H Q ⟨G, E, q⟩ => ⟨G, E, fun v H1 G1 s1 E1 v1 => ⟨G1, E1, fun H2 G2 s2 E2 => ⟨G2, E2, fun H3 G3 s3 E3 => by
    obtain ⟨p1, vs, rfl, alt, al⟩ := seq_of E3 ((v1.mono s2.g).mono s3.g) va rfl
    have r1 : Rd H3 p1 (.lst vs) := by
      rcases alt with ⟨_, z⟩ | ⟨z, _⟩
      · exact z
      · cases z
    exact ⟨p1, vs, rfl, .inl r1, fun l' hl' => q l' _ _ G3 (((s1.trans s2).trans s3).trans (Step.newRaw hl')) (E3.newRaw hl') (fre_of ((s1.trans s2).trans s3) E3 hl') (E3.no hl').2.2 upd_same (dpa_cut al _ _)⟩⟩⟩⟩
theorem cut_whole {α : Type} (xs : List α) {i j : Nat} (h1 : i = 0) (h2 : j = xs.length) : (xs.drop i).take (j - i) = xs := by
  subst h1 h2; simp
theorem de_slT {lo hi : Option Expr} {l h : Option Int} {Γ3 : List Sl} (ha : PE X a (tD X.K F Γ (.dat (.tuple ds)) Γ1)) (hl : PO X lo (tDO X.K F Γ1 l Γ2)) (hh : PO X hi (tDO X.K F Γ2 h Γ3)) : PE X (.Subscript a (.Slice lo hi none p2) pos) (tD X.K F Γ (.dat (.tuple (cutD ds l h))) Γ3) :=
  pe_imp (pe_slice sl_tupA ha hl hh) fun σ H Q ⟨G, E, q⟩ => ⟨G, E, fun v H1 G1 s1 E1 v1 => ⟨G1, E1, fun H2 G2 s2 E2 => ⟨G2, E2, fun H3 G3 s3 E3 => by
    have v3 : Dq X.K G3 v (.tuple ds) := dp_mono (s2.g.trans s3.g) _ _ v1
    obtain ⟨p1, vs, rfl, hq, al⟩ := dp_tup v3
    refine ⟨p1, vs, rfl, sqT_mono E3.le hq, fun w => ?_, fun _ l' hl' => ?_⟩
    · have e : cutD ds l h = ds := by
        unfold cutD
        rw [dpa_len al] at w
        exact cut_whole ds w.1 w.2
      rw [e] at q
      exact q _ H3 G3 ((s1.trans s2).trans s3) E3 v3
    · have g := (E3.no hl').2.2
      exact q _ _ _ (((s1.trans s2).trans s3).trans (Step.newDat hl' g)) (E3.newDat hl') (.tup (SqT.of upd_same) (dpa_mono (same_upd g) _ _ (dpa_cut al _ _)))⟩⟩⟩
theorem dn_revL {k : Nat} {p1 p3 : Pos} (ha : PE X a (tD X.K F Γ ra Γ1)) (va : vw Γ1 ra = some (.list ds) := by rfl) : PE X (.Subscript a (.Slice none none (some (.UnaryOp .USub (.Constant (.int 1) k p1) p2)) p3) pos) (tN X.K F Γ ds.reverse Γ1) :=
  pe_imp (pe_revL ha) fun σ H Q ⟨G, E, q⟩ => ⟨G, E, fun v H1 G1 s1 E1 v1 => by
    obtain ⟨p1, vs, rfl, alt, al⟩ := seq_of E1 v1 va rfl
    have r1 : Rd H1 p1 (.lst vs) := by
      rcases alt with ⟨_, z⟩ | ⟨z, _⟩
      · exact z
      · cases z
    exact ⟨p1, vs, rfl, .inl r1, fun l' hl' => q l' _ _ G1 (s1.trans (Step.newRaw hl')) (E1.newRaw hl') (fre_of s1 E1 hl') (E1.no hl').2.2 upd_same (dpa_rev al)⟩⟩
theorem own_at {K : PySem.W.Frag} {G H : Hp} {σ : L2.St} (E : En K F G σ H Γ) {i : Nat} (h : lk Γ i = .own xs) : ∃ p vs, σ[i]? = some (some (.ref p)) ∧ G p = none ∧ H p = some (.lst vs) ∧ DqAll K G vs xs := by
  have s := E.sl i
  rw [h] at s
  obtain ⟨p, vs, e, g, hp, ha, _⟩ := s
  exact ⟨p, vs, e, g, hp, ha⟩
theorem ds_item {i : Nat} {k : Int} {j : Nat} {o ix : Expr} {Γ3 : List Sl} (he : PE X e (tD X.K F Γ (.dat d) Γ1)) (ho : PE X o (tD X.K F Γ1 (.al i) Γ2)) (hi : PE X ix (tD X.K F Γ2 (.dat (.int k)) Γ3)) (hj : ixN xs.length k = some j)
    (hr : PSs X rest (tS X.K F W (st Γ3 i (.own (xs.set j d))) P)) (hl : lk Γ3 i = .own xs := by rfl)
    (ha : ∀ v, assign (.Subscript o ix pos') X.env v = (do
      let ov ← holding [v] (eval o X.env)
      let iv ← holding [v, ov] (eval ix X.env)
      standAt pos'
      holding [v, ov, iv] (setItem ov iv v)
      release [v, ov, iv] []) := by intro _; rfl)
    (hs : swapsWithSole [.Subscript o ix pos'] e pos.line X.env = pure false := by rfl) (hw : swappedStores [.Subscript o ix pos'] e X.env = pure none := by rfl)
    (h1 : (assignEach [.Subscript o ix pos'] X.env).map (·.2) = [assign (.Subscript o ix pos') X.env] := by rfl) :
    PSs X (.Assign [.Subscript o ix pos'] e pos :: rest) (tS X.K F W Γ P) :=
  ds_seq (ps_imp (ps_asg he (pg_sub ho hi set_list ha) hs hw h1) fun D σ H ⟨G, E, q, _⟩ => ⟨G, E, fun v H1 G1 s1 E1 v1 => ⟨G1, E1, fun ov H2 G2 s2 E2 v2 => ⟨G2, E2, fun iv H3 G3 s3 E3 v3 => by
    obtain ⟨p, vs, es, g, hp, al⟩ := own_at E3 hl
    have v2 : σ[i]? = some (some ov) := v2
    rw [es] at v2
    have : V.ref p = ov := Option.some.inj (Option.some.inj v2)
    subst this
    refine ⟨p, vs, k, j, rfl, dp_int v3, hp, by rw [dpa_len al]; exact hj, ?_⟩
    have hd3 : Dq X.K G3 v d := dp_mono (s2.g.trans s3.g) _ _ v1
    exact q _ _ _ G3 hr ((s1.trans s2).trans s3).g (E3.write hl es (dpa_set j al hd3))⟩⟩⟩)
theorem ds_append {i : Nat} {o : Expr} {apos epos : Pos} (ho : PE X o (tD X.K F Γ (.al i) Γ1)) (he : PE X e (tD X.K F Γ1 (.dat d) Γ2)) (hz : xs.length < 100000)
    (hr : PSs X rest (tS X.K F W (st Γ2 i (.own (xs ++ [d]))) P)) (hl1 : lk Γ1 i = .own ds := by rfl) (hl : lk Γ2 i = .own xs := by rfl)
    (hp : PE X (.Call (.Attribute o "append" apos) [e] [] epos) (tBM X.K "list" rAppend (tD X.K F Γ (.al i) Γ1) (tCons (tD X.K F Γ1 (.dat d) Γ2) tNil))) (hs : swapsWith (.Call (.Attribute o "append" apos) [e] [] epos) none pos.line X.env = pure false := by rfl) :
    PSs X (.Expr (.Call (.Attribute o "append" apos) [e] [] epos) pos :: rest) (tS X.K F W Γ P) :=
  ds_seq (ps_imp (ps_expr hp hs) fun D σ H ⟨G, E, q, _⟩ => ⟨G, E, fun ov H1 G1 s1 E1 v1 => by
    obtain ⟨p, vs, es, g, hp, al⟩ := own_at E1 hl1
    have v1 : σ[i]? = some (some ov) := v1
    rw [es] at v1
    have : V.ref p = ov := Option.some.inj (Option.some.inj v1)
    subst this
    refine ⟨Or.inl ⟨rfl, vs, .inl (.inl hp)⟩, G1, E1, fun v H2 G2 s2 E2 v2 => ?_⟩
    obtain ⟨p', vs', es', g', hp', al'⟩ := own_at E2 hl
    rw [es] at es'
    cases es'
    refine ⟨p, vs', v, rfl, rfl, hp', by rw [dpa_len al']; exact Nat.lt_of_lt_of_le hz (by decide), ?_⟩
    exact q _ _ _ G2 hr (s1.trans s2).g (E2.write hl es (dpa_app al' (.cons v2 .nil)))⟩)
theorem ds_pop {i : Nat} {o : Expr} {apos epos : Pos} (ho : PE X o (tD X.K F Γ (.al i) Γ1)) (hz : xs ≠ [])
    (hr : PSs X rest (tS X.K F W (st Γ1 i (.own xs.dropLast)) P)) (hl : lk Γ1 i = .own xs := by rfl)
    (hp : PE X (.Call (.Attribute o "pop" apos) [] [] epos) (tBM0 X.K "list" rPop (tD X.K F Γ (.al i) Γ1))) (hs : swapsWith (.Call (.Attribute o "pop" apos) [] [] epos) none pos.line X.env = pure false := by rfl) :
    PSs X (.Expr (.Call (.Attribute o "pop" apos) [] [] epos) pos :: rest) (tS X.K F W Γ P) :=
  ds_seq (ps_imp (ps_expr hp hs) fun D σ H ⟨G, E, q, _⟩ => ⟨G, E, fun ov H1 G1 s1 E1 v1 => by
    obtain ⟨p, vs, es, g, hp, al⟩ := own_at E1 hl
    have v1 : σ[i]? = some (some ov) := v1
    rw [es] at v1
    have : V.ref p = ov := Option.some.inj (Option.some.inj v1)
    subst this
    have hne : vs.length - 1 < vs.length := by
      have := dpa_len al
      cases xs with
      | nil => exact absurd rfl hz
      | cons x r => rw [this, List.length_cons]; omega
    refine ⟨Or.inl ⟨rfl, vs, .inl (.inl hp)⟩, p, vs, vs[vs.length - 1], rfl, rfl, hp, List.getElem?_eq_getElem hne, ?_⟩
    have e2 : DqAll X.K G1 vs.dropLast xs.dropLast := by
      rw [List.dropLast_eq_take, List.dropLast_eq_take, dpa_len al]
      exact dpa_take _ al
    exact q _ _ _ G1 hr s1.g (E1.write hl es e2)⟩)
end
end AM

set_option Elab.async false
set_option linter.all false
set_option maxRecDepth 100000
set_option maxHeartbeats 2000000
namespace AM
open PySem PySem.Spec PyProof.Rows L2
def wpG (Γ : List Sl) : List Nat → List Sl
  | [] => Γ
  | v :: vs => st (wpG Γ vs) v .no
theorem wpG_length (Γ : List Sl) : ∀ vs : List Nat, (wpG Γ vs).length = Γ.length
  | [] => rfl
  | v :: vs => by unfold wpG; rw [st_length, wpG_length Γ vs]
theorem lk_no (Γ : List Sl) (i : Nat) : lk (st Γ i .no) i = .no := by
  by_cases h : i < Γ.length
  · exact lk_st_same _ _ _ h
  · exact lk_big _ _ (by rw [st_length]; omega)
theorem lk_wpG {Γ : List Sl} {i : Nat} : ∀ {vs : List Nat}, i ∈ vs → lk (wpG Γ vs) i = .no
  | v :: vs, h => by
    unfold wpG
    by_cases e : v = i
    · subst e; exact lk_no _ _
    · rw [lk_st_ne _ _ _ _ e]
      exact lk_wpG ((List.mem_cons.mp h).resolve_left (Ne.symm e))
section
variable {K : PySem.W.Frag} {F : Fx} {σ : L2.St} {Γ Γ1 : List Sl} {G H : Hp}
theorem En.wipe1 (E : En K F G σ H Γ) (v : Nat) (hb : pf F v = true) : En K F G (σ.set v none) H (st Γ v .no) where
  le := E.le
  g0 := E.g0
  fr := E.fr
  base := E.base
  mu := E.mu
  sl := fun j => by
    by_cases q : v = j
    · subst q; rw [lk_no]; trivial
    · rw [lk_st_ne _ _ _ _ q, List.getElem?_set_ne q]; exact E.sl j
  nd := fun a b p xs ys e1 e2 e3 e4 => by
    have na : v ≠ a := fun q => by subst q; rw [lk_no] at e1; cases e1
    have nb : v ≠ b := fun q => by subst q; rw [lk_no] at e2; cases e2
    rw [lk_st_ne _ _ _ _ na] at e1
    rw [lk_st_ne _ _ _ _ nb] at e2
    rw [List.getElem?_set_ne na] at e3
    rw [List.getElem?_set_ne nb] at e4
    exact E.nd a b p xs ys e1 e2 e3 e4
  len := by rw [List.length_set, st_length]; exact E.len
  pin := fun q hq => by
    have ne := pf_ne hb q hq
    rw [List.getElem?_set_ne (Ne.symm ne), lk_st_ne _ _ _ _ (Ne.symm ne)]
    exact E.pin q hq
  tab := E.tab
  nt := E.nt
theorem En.wipe (E : En K F G σ H Γ) : ∀ vs : List Nat, vs.all (pf F) = true → En K F G (L2.wipe σ vs) H (wpG Γ vs)
  | [], _ => E
  | v :: vs, h => by
    rw [List.all_cons, Bool.and_eq_true] at h
    exact (E.wipe vs h.2).wipe1 v h.1
theorem En.unwipe {vs : List Nat} (E : En K F G (L2.wipe σ vs) H Γ) (h : ∀ v ∈ vs, lk Γ v = .no) : En K F G σ H Γ where
  le := E.le
  g0 := E.g0
  fr := E.fr
  base := E.base
  mu := E.mu
  sl := fun j => by
    by_cases q : j ∈ vs
    · rw [h j q]; trivial
    · have s := E.sl j
      rw [wipe_out q] at s
      exact s
  nd := fun a b p xs ys e1 e2 e3 e4 => by
    have na : a ∉ vs := fun q => by rw [h a q] at e1; cases e1
    have nb : b ∉ vs := fun q => by rw [h b q] at e2; cases e2
    exact E.nd a b p xs ys e1 e2 (by rw [wipe_out na]; exact e3) (by rw [wipe_out nb]; exact e4)
  len := by rw [← E.len, wipe_length]
  pin := fun q hq => ⟨(wipe_some (E.pin q hq).1).1, (E.pin q hq).2⟩
  tab := E.tab
  nt := E.nt
theorem En.raw (E : En K F G σ H Γ) {p : Addr} {o : HO} {us : List V} (hp : H p = some (.lst us)) (g : G p = none) (n : ¬ Own σ Γ p) (h0 : F.H0 p = none) (m : ¬ F.M p) : En K F G σ (upd H p o) Γ where
  le := fun a u e => by
    rw [upd_ne (ne_of_none e g)]; exact E.le a u e
  g0 := E.g0
  fr := E.fr
  base := fun a u nm e => by
    rw [upd_ne (ne_of_none e h0)]; exact E.base a u nm e
  mu := fun a ma => by
    obtain ⟨u, e⟩ := E.mu a ma
    exact ⟨u, by rw [upd_ne (fun z => m (by rw [← z]; exact ma))]; exact e⟩
  sl := fun i => by
    have s := E.sl i
    cases q : lk Γ i with
    | no => trivial
    | dat d => rw [q] at s; exact s
    | own xs =>
      rw [q] at s
      obtain ⟨a, vs, e, g, hp, ha, hm⟩ := s
      have ne : a ≠ p := fun z => n (by rw [← z]; exact ⟨i, xs, q, e⟩)
      exact ⟨a, vs, e, g, by rw [upd_ne ne]; exact hp, ha, hm⟩
  nd := E.nd
  len := E.len
  pin := E.pin
  tab := tabs_write E.tab hp
  nt := E.nt
theorem own_wipe {vs : List Nat} {a : Addr} (h : ∀ v ∈ vs, lk Γ v = .no) : Own (L2.wipe σ vs) Γ a ↔ Own σ Γ a := by
  constructor
  · rintro ⟨i, xs, e, es⟩
    have ni : i ∉ vs := fun q => by rw [h i q] at e; cases e
    rw [wipe_out ni] at es
    exact ⟨i, xs, e, es⟩
  · rintro ⟨i, xs, e, es⟩
    have ni : i ∉ vs := fun q => by rw [h i q] at e; cases e
    exact ⟨i, xs, e, by rw [wipe_out ni]; exact es⟩
end
theorem wipe_same {σ τ : L2.St} {vs : List Nat} (hl : τ.length = σ.length) (h : ∀ i, i ∉ vs → τ[i]? = σ[i]?) : L2.wipe τ vs = L2.wipe σ vs := by
  have no : ∀ (ρ : L2.St) (i : Nat), i ∈ vs → i < ρ.length → (L2.wipe ρ vs)[i]? = some none := by
    intro ρ i hi hlt
    have hlt' : i < (L2.wipe ρ vs).length := by rw [wipe_length]; exact hlt
    cases q : (L2.wipe ρ vs)[i]? with
    | none => rw [List.getElem?_eq_none_iff] at q; omega
    | some o =>
      cases o with
      | none => rfl
      | some v => exact absurd hi (wipe_some q).2
  apply List.ext_getElem?
  intro i
  by_cases hi : i ∈ vs
  · by_cases hlt : i < σ.length
    · rw [no σ i hi hlt, no τ i hi (by omega)]
    · rw [List.getElem?_eq_none_iff.mpr (by rw [wipe_length]; omega), List.getElem?_eq_none_iff.mpr (by rw [wipe_length]; omega)]
  · rw [wipe_out hi, wipe_out hi]; exact h i hi
structure Tgt (K : PySem.W.Frag) (F : Fx) (g : TG) (vs : List Nat) (A : PyData → List Sl → List Sl → Prop) : Prop where
  run : ∀ G H σ Γ Γ' v d (Q : L2.St → Hp → Prop), En K F G σ H Γ → Dq K G v d → A d Γ Γ' → (∀ σ', En K F G σ' H Γ' → σ'.length = σ.length → (∀ i, i ∉ vs → σ'[i]? = σ[i]?) → (∀ a, Own σ' Γ' a → Own σ Γ a) → Q σ' H) → g v σ H Q
theorem own_setDat {σ : L2.St} {Γ : List Sl} {i : Nat} {v : V} {d : PyData} {a : Addr} (hi : i < Γ.length) (h : Own (σ.set i (some v)) (st Γ i (.dat d)) a) : Own σ Γ a := by
  obtain ⟨j, xs, e1, e2⟩ := h
  by_cases q : i = j
  · subst q; rw [lk_st_same _ _ _ hi] at e1; cases e1
  · rw [lk_st_ne _ _ _ _ q] at e1
    rw [List.getElem?_set_ne q] at e2
    exact ⟨j, xs, e1, e2⟩
theorem tgt_name {K : PySem.W.Frag} {F : Fx} (i : Nat) : Tgt K F (gName i) [i] (aName F i) := ⟨fun G H σ Γ Γ' v d Q E hd ⟨e, hl, hb⟩ q => by
  subst e
  refine q _ (E.setDat hd (inb_lt hl) hb) (by rw [List.length_set]) (fun j hj => ?_) fun a h => own_setDat (inb_lt hl) h
  rw [List.getElem?_set_ne (fun z => hj (by simp [z]))]⟩
def aPair (F : Fx) (i j : Nat) : PyData → List Sl → List Sl → Prop := fun d Γ Γ' => ∃ d1 d2, d = .tuple [d1, d2] ∧ Γ' = st (st Γ i (.dat d1)) j (.dat d2) ∧ inb Γ i = true ∧ inb Γ j = true ∧ pf F i = true ∧ pf F j = true
theorem tgt_pair {K : PySem.W.Frag} {F : Fx} (i j : Nat) : Tgt K F (gTup K 2 (gCons (gName i) (gCons (gName j) gNil))) [i, j] (aPair F i j) := ⟨fun G H σ Γ Γ' v d Q E hd ⟨d1, d2, e, e2, h1, h2, b1, b2⟩ q => by
  subst e e2
  obtain ⟨p, vs, rfl, hq, ha⟩ := dp_tup hd
  cases ha with
  | cons a1 r1 =>
    cases r1 with
    | cons a2 r2 =>
      cases r2
      refine ⟨p, _, rfl, sqT_mono E.le hq, rfl, _, _, rfl, _, _, rfl, rfl, ?_⟩
      refine q _ ((E.setDat a1 (inb_lt h1) b1).setDat a2 (by rw [st_length]; exact inb_lt h2) b2) (by rw [List.length_set, List.length_set]) (fun k hk => ?_) fun a h => own_setDat (inb_lt h1) (own_setDat (by rw [st_length]; exact inb_lt h2) h)
      rw [List.getElem?_set_ne (fun z => hk (by simp [z])), List.getElem?_set_ne (fun z => hk (by simp [z]))]⟩
theorem lk_wpG_out (Γ : List Sl) {i : Nat} : ∀ {vs : List Nat}, i ∉ vs → lk (wpG Γ vs) i = lk Γ i
  | [], _ => rfl
  | v :: vs, h => by
    unfold wpG
    rw [lk_st_ne _ _ _ _ (fun z => h (by simp [z]))]
    exact lk_wpG_out Γ fun z => h (List.mem_cons_of_mem _ z)
theorem Step.out {σ σ2 : L2.St} {Γ Γt Γx : List Sl} {G H G' H' : Hp} {vs : List Nat} (s : Step σ2 Γt Γx G H G' H') (hO : ∀ a, Own σ2 Γt a → Own σ Γ a) (hag : ∀ i, i ∉ vs → σ2[i]? = σ[i]?) : Step σ Γ (wpG Γx vs) G H G' H' where
  g := s.g
  f := s.f
  k := fun a o h n t => s.k a o h (fun z => n (hO a z)) t
  o := fun a ⟨i, ys, e1, e2⟩ => by
    have ni : i ∉ vs := fun z => by rw [lk_wpG z] at e1; cases e1
    rw [lk_wpG_out _ ni] at e1
    exact hO a (s.o a ⟨i, ys, e1, by rw [hag i ni]; exact e2⟩)
  s := s.s
section
variable {X : Cx} {F : Fx} {W : WX} {Γ Γ1 Γ2 : List Sl} {P : Out → Prop} {rest body : List Stmt} {e a b c elt iter tg : Expr} {ifs : List Expr} {pos pos' : Pos} {ds xs : List PyData} {scope : Scope} {own : List (Str × Nat)} {g : TG} {A : PyData → List Sl → List Sl → Prop}
theorem pg_tgt {vs : List Nat} (T : Tgt X.K F g vs A) (h : PG X tg g) : PG X tg (tT X.K F A) :=
  ⟨fun pins s σ H v u Q I r ⟨G, d, Γ, Γ', hA, E, hd, q⟩ => h.run pins s σ H v u Q I r (T.run G H σ Γ Γ' v d Q E hd hA fun σ' E' _ _ _ => q σ' H G Same.r E')⟩
theorem pt_pair (i j : Nat) {x y : Str} {px py pt : Pos} {k : Nat} (hN : X.N.Nodup) (hi : X.N[i]? = some x := by rfl) (hj : X.N[j]? = some y := by rfl) (hx : Loc X.env.scope x := by first | exact Or.inl rfl | exact Or.inr rfl) (hy : Loc X.env.scope y := by first | exact Or.inl rfl | exact Or.inr rfl) (hc : X.calm = true := by rfl)
    (hf : X.fn x = true ∨ X.env.scope.names.lookup x = some .local := by first | exact .inl rfl | exact .inr rfl) (hf2 : X.fn y = true ∨ X.env.scope.names.lookup y = some .local := by first | exact .inl rfl | exact .inr rfl)
    (hs1 : (assignEach [.Name x px, .Name y py] X.env).map (·.2) = assign (.Name x px) X.env :: (assignEach [.Name y py] X.env).map (·.2) := by rfl) (hs2 : (assignEach [.Name y py] X.env).map (·.2) = assign (.Name y py) X.env :: (assignEach [] X.env).map (·.2) := by rfl)
    (hn : (assignEach [.Name x px, .Name y py] X.env).length = 2 := by rfl) (hst : (assignEach [.Name x px, .Name y py] X.env).findIdx? (·.1) = none := by rfl) : PG X (.Tuple [.Name x px, .Name y py] k pt) (gTup X.K 2 (gCons (gName i) (gCons (gName j) gNil))) :=
  pg_tup hc (pgs_cons (pg_name hN hi hx hf) (pgs_cons (pg_name hN hj hy hf2) pgs_nil hs2) hs1) hn hst
def LcR (X : Cx) (F : Fx) (Γ : List Sl) (elt tg iter : Expr) (ifs : List Expr) (scope : Scope) (own : List (Str × Nat)) (xs : List PyData) (Γ2 : List Sl) : Prop :=
  ∃ (wi : TI) (g : TG) (tt : TT) (te : TE), X.N.Nodup ∧ PI X tg iter wi ∧ BlkOk X.N X.env.scope scope own ∧ (∀ (s : Shared) (H : Hp) (C : Addr) (cl : List (Str × Addr)) (fp : List Addr), PG (X.blk s H scope (compEnvC scope cl C X.env) fp) tg g) ∧
    (∀ (s : Shared) (H : Hp) (C : Addr) (cl : List (Str × Addr)) (fp : List Addr), PTs (X.blk s H scope (compEnvC scope cl C X.env) fp) ifs tt) ∧ (∀ (s : Shared) (H : Hp) (C : Addr) (cl : List (Str × Addr)) (fp : List Addr), PE (X.blk s H scope (compEnvC scope cl C X.env) fp) elt te) ∧
    ∀ σ H Q, tN X.K F Γ xs Γ2 σ H Q → tLc wi g tt te (own.map (·.2)) σ H Q
theorem LcR.pe (h : LcR X F Γ elt tg iter ifs scope own xs Γ2) (hc : X.calm = true := by rfl) (hs : ∀ x, foldedSetIterable iter X.env x = pure x := by intro _; rfl) : PE X (.ListComp elt [⟨tg, iter, ifs, 0⟩] scope pos) (tN X.K F Γ xs Γ2) := by
  obtain ⟨wi, g, tt, te, hN, hi, ok, hg, ht, he, q⟩ := h
  exact pe_imp (pe_lc hc hN hi ok hg ht he hs) q
theorem ds_setL (i : Nat) {y : Str} {py spos : Pos} (h : LcR X F Γ elt tg iter ifs scope own xs Γ2) (hr : PSs X rest (tS X.K F W (st Γ2 i (.own xs)) P)) (hN : X.N.Nodup) (hi : X.N[i]? = some y := by rfl) (hy : X.env.scope.names.lookup y = some .local := by rfl) (hl : inb Γ2 i = true := by rfl) (hb : pf F i = true := by rfl)
    (hsw : swapsWith (.ListComp elt [⟨tg, iter, ifs, 0⟩] scope pos) (some (.Name y py)) spos.line X.env = pure true := by exact sw_true rfl rfl rfl (by decide +kernel)) (hc : X.calm = true := by rfl) (hs : ∀ x, foldedSetIterable iter X.env x = pure x := by intro _; rfl) :
    PSs X (.Assign [.Name y py] (.ListComp elt [⟨tg, iter, ifs, 0⟩] scope pos) spos :: rest) (tS X.K F W Γ P) := by
  obtain ⟨wi, g, tt, te, hN', hpi, ok, hg, ht, he, q⟩ := h
  exact ds_seq (ps_imp (ps_setLc hc hN hi hy hsw hpi ok hg ht he hs) fun D σ H ⟨G, E, k, _⟩ => q σ H _ ⟨G, E, fun p vs H1 G1 s1 E1 hp g' hl' a => k (st Γ2 i (.own xs)) _ H1 G1 hr s1.g (E1.setOwn (inb_lt hl) hl' g' (own_ne s1 E hp.1) hp.2 a hb)⟩)
theorem ds_setLD (i : Nat) {y : Str} {py spos : Pos} (h : LcR X F Γ elt tg iter ifs scope own xs Γ2) (hr : PSs X rest (tS X.K F W (st Γ2 i (.dat (.list xs))) P)) (hN : X.N.Nodup) (hi : X.N[i]? = some y := by rfl) (hy : X.env.scope.names.lookup y = some .local := by rfl) (hl : inb Γ2 i = true := by rfl) (hb : pf F i = true := by rfl)
    (hsw : swapsWith (.ListComp elt [⟨tg, iter, ifs, 0⟩] scope pos) (some (.Name y py)) spos.line X.env = pure true := by exact sw_true rfl rfl rfl (by decide +kernel)) (hc : X.calm = true := by rfl) (hs : ∀ x, foldedSetIterable iter X.env x = pure x := by intro _; rfl) :
    PSs X (.Assign [.Name y py] (.ListComp elt [⟨tg, iter, ifs, 0⟩] scope pos) spos :: rest) (tS X.K F W Γ P) := by
  obtain ⟨wi, g, tt, te, hN', hpi, ok, hg, ht, he, q⟩ := h
  exact ds_seq (ps_imp (ps_setLc hc hN hi hy hsw hpi ok hg ht he hs) fun D σ H ⟨G, E, k, _⟩ => q σ H _ ⟨G, E, fun p vs H1 G1 s1 E1 hp g' hl' a => by
    have sg : Same G1 (upd G1 p (.lst vs)) := same_upd g'
    have E2 := E1.freeze hl' g' (own_ne s1 E hp.1) hp.2
    exact k (st Γ2 i (.dat (.list xs))) _ H1 _ hr (s1.g.trans sg) (E2.setDat (.lst upd_same (dpa_mono sg _ _ a)) (inb_lt hl) hb)⟩)
theorem lr_lc (V : Nat → List PyData → List Sl → Prop) (hi : PI X tg iter (tI X.K F Γ ds Γ1)) (T : Tgt X.K F g (own.map (·.2)) A) (hN : X.N.Nodup) (ok : BlkOk X.N X.env.scope scope own)
    (hg : ∀ (s : Shared) (H : Hp) (C : Addr) (cl : List (Str × Addr)) (fp : List Addr), PG (X.blk s H scope (compEnvC scope cl C X.env) fp) tg g)
    (h0 : V 0 [] (wpG Γ1 (own.map (·.2)))) (hz : ds.length < 100000)
    (turn : ∀ j d acc Γ, ds[j]? = some d → V j acc Γ → ∃ Γt k, A d Γ Γt ∧ (∀ (s : Shared) (H : Hp) (C : Addr) (cl : List (Str × Addr)) (fp : List Addr), PTs (X.blk s H scope (compEnvC scope cl C X.env) fp) ifs (tDT X.K F Γt k Γt)) ∧
      (k = false → V (j + 1) acc (wpG Γt (own.map (·.2)))) ∧ (k = true → ∃ y Γ2, (∀ (s : Shared) (H : Hp) (C : Addr) (cl : List (Str × Addr)) (fp : List Addr), PE (X.blk s H scope (compEnvC scope cl C X.env) fp) elt (tD X.K F Γt (.dat y) Γ2)) ∧ V (j + 1) (acc ++ [y]) (wpG Γ2 (own.map (·.2)))))
    (done : ∀ acc Γ, V ds.length acc Γ → acc = xs ∧ Γ = Γ2) (hpf : (own.map (·.2)).all (pf F) = true := by rfl) : LcR X F Γ elt tg iter ifs scope own xs Γ2 := by
  have ht : ∀ (s : Shared) (H : Hp) (C : Addr) (cl : List (Str × Addr)) (fp : List Addr), PTs (X.blk s H scope (compEnvC scope cl C X.env) fp) ifs (fun σ H Q => ∃ Γt k, (∀ (s : Shared) (H : Hp) (C : Addr) (cl : List (Str × Addr)) (fp : List Addr), PTs (X.blk s H scope (compEnvC scope cl C X.env) fp) ifs (tDT X.K F Γt k Γt)) ∧ tDT X.K F Γt k Γt σ H Q) :=
    fun s H C cl fp => ⟨fun pins s' σ H' Q I ⟨Γt, k, h, q⟩ => (h s H C cl fp).run pins s' σ H' Q I q⟩
  have he : ∀ (s : Shared) (H : Hp) (C : Addr) (cl : List (Str × Addr)) (fp : List Addr), PE (X.blk s H scope (compEnvC scope cl C X.env) fp) elt (fun σ H Q => ∃ Γt y Γ2, (∀ (s : Shared) (H : Hp) (C : Addr) (cl : List (Str × Addr)) (fp : List Addr), PE (X.blk s H scope (compEnvC scope cl C X.env) fp) elt (tD X.K F Γt (.dat y) Γ2)) ∧ tD X.K F Γt (.dat y) Γ2 σ H Q) :=
    fun s H C cl fp => ⟨fun pins s' σ H' Q I ⟨Γt, y, Γ2, h, q⟩ => (h s H C cl fp).run pins s' σ H' Q I q⟩
  refine ⟨_, _, _, _, hN, hi, ok, hg, ht, he, fun σ H Q ⟨G, E, q⟩ => ⟨G, E, fun J H1 G1 s1 E1 it D hD => ?_⟩⟩
  have HD := fre_of s1 E1 hD
  have d0 := E1.no hD
  have E1' := E1.newRaw (o := .lst []) hD
  have nO : ¬ Own σ Γ1 D := own_ne s1 E HD.1
  -- the state between the turns
  refine ⟨fun i m H' => m = ds.length - i ∧ i ≤ ds.length ∧ ∃ acc Γ' G' vs, V i acc Γ' ∧ (∀ v ∈ own.map (·.2), lk Γ' v = .no) ∧ Step σ Γ1 Γ' G1 H1 G' H' ∧ En X.K F G' (L2.wipe σ (own.map (·.2))) H' Γ' ∧ G' D = none ∧ H' D = some (.lst vs) ∧ DqAll X.K G' vs acc ∧ acc.length ≤ i, ?_, ?_⟩
  · refine ⟨ds.length, by simp, Nat.zero_le _, [], _, G1, [], h0, fun v hv => lk_wpG hv, ?_, E1'.wipe _ hpf, (E1.no hD).2.2, upd_same, .nil, Nat.le_refl _⟩
    exact (Step.newRaw (σ := σ) (Γ := Γ1) hD).out (fun _ z => z) (fun _ _ => rfl)
  · rintro i m H' ⟨rfl, hle, acc, Γ', G', vs, hV, hno, sp, E', gD, hD', al, hlen⟩
    have leH : Same G1 H' := fun a o h => E'.le a o (sp.g a o h)
    by_cases hlt : i < ds.length
    · refine .inr ⟨it.go i H' leH hlt, fun H'' => i + 1 ≤ ds.length ∧ ∃ acc Γ' G' vs, V (i + 1) acc Γ' ∧ (∀ v ∈ own.map (·.2), lk Γ' v = .no) ∧ Step σ Γ1 Γ' G1 H1 G' H'' ∧ En X.K F G' (L2.wipe σ (own.map (·.2))) H'' Γ' ∧ G' D = none ∧ H'' D = some (.lst vs) ∧ DqAll X.K G' vs acc ∧ acc.length ≤ i + 1, fun H'' h'' => ⟨ds.length - (i + 1), by omega, rfl, h''⟩, fun x H2 y => ?_⟩
      obtain ⟨d, hd, alt⟩ := it.yl i H' G' x H2 sp.g E'.le hlt y
      obtain ⟨Γt, k, hA, pT, hn, hy⟩ := turn i d acc Γ' hd hV
      obtain ⟨G3, s3, E3, hx, gD3, hD3⟩ : ∃ G3, (∀ τ, Step τ Γ' Γ' G' H' G3 H2) ∧ En X.K F G3 (L2.wipe σ (own.map (·.2))) H2 Γ' ∧ Dq X.K G3 x d ∧ G3 D = none ∧ H2 D = some (.lst vs) := by
        rcases alt with ⟨rfl, hx⟩ | ⟨p, o, hp, ho, rfl, hx⟩
        · exact ⟨G', fun τ => Step.refl, E', hx, gD, hD'⟩
        · have ne : D ≠ p := ne_of_none hD' hp
          exact ⟨_, fun τ => Step.newDat hp (E'.no hp).2.2, E'.newDat hp ho, hx, by rw [upd_ne ne]; exact gD, by rw [upd_ne ne]; exact hD'⟩
      refine T.run G3 H2 _ Γ' Γt x d _ E3 hx hA fun σ2 E4 hl2 hag hown => ?_
      have hag2 : ∀ i, i ∉ own.map (·.2) → σ2[i]? = σ[i]? := fun i hi => by rw [hag i hi, wipe_out hi]
      have hO : ∀ a, Own σ2 Γt a → Own σ Γ' a := fun a z => (own_wipe hno).mp (hown a z)
      have hw : L2.wipe σ2 (own.map (·.2)) = L2.wipe σ (own.map (·.2)) := wipe_same (by rw [hl2, wipe_length]) hag2
      have nOt : ¬ Own σ2 Γt D := fun z => nO (sp.o D (hO D z))
      have al3 : DqAll X.K G3 vs acc := dpa_mono (s3 σ).g _ _ al
      refine ⟨hw, Γt, k, pT, G3, E4, fun H5 G5 s5 E5 => ?_⟩
      have hD5 : H5 D = some (.lst vs) := s5.k D _ hD3 nOt noTb_lst
      have gD5 : G5 D = none := by
        cases z : G5 D with
        | none => rfl
        | some o =>
          rcases s5.f D o z with ⟨o', z'⟩ | z'
          · rw [gD3] at z'; cases z'
          · exact (z' _ hD3).elim
      cases k with
      | false =>
        refine iteF ?_
        have E6 := E5.wipe (own.map (·.2)) hpf
        rw [hw] at E6
        exact ⟨hlt, acc, _, G5, vs, hn rfl, fun v hv => lk_wpG hv, sp.trans ((s3 σ).trans (s5.out hO hag2)), E6, gD5, hD5, dpa_mono s5.g _ _ al3, by omega⟩
      | true =>
        refine iteT ?_
        obtain ⟨yv, Γ3, pE, hV3⟩ := hy rfl
        refine ⟨Γt, yv, Γ3, pE, G5, E5, fun v H6 G6 s6 E6 v6 => ?_⟩
        have s56 := s5.trans s6
        have hD6 : H6 D = some (.lst vs) := s6.k D _ hD5 nOt noTb_lst
        have gD6 : G6 D = none := by
          cases z : G6 D with
          | none => rfl
          | some o =>
            rcases s6.f D o z with ⟨o', z'⟩ | z'
            · rw [gD5] at z'; cases z'
            · exact (z' _ hD5).elim
        have lv : vs.length = acc.length := dpa_len al
        refine ⟨vs, hD6, by rw [lv]; exact Nat.lt_of_lt_of_le (Nat.lt_of_le_of_lt hlen (Nat.lt_trans hlt hz)) (by decide), hlt, acc ++ [yv], _, G6, vs ++ [v], hV3, fun v hv => lk_wpG hv, ?_, ?_, gD6, upd_same, dpa_app (dpa_mono s56.g _ _ al3) (.cons v6 .nil), by rw [List.length_append]; simp; omega⟩
        · have S := sp.trans ((s3 σ).trans (s56.out hO hag2))
          refine ⟨S.g, S.f, fun a o h n t => ?_, S.o, fun a us h => ?_⟩
          · rw [upd_ne (ne_of_none h hD)]; exact S.k a o h n t
          · rw [upd_ne (ne_of_none h hD)]; exact S.s a us h
        · have E7 := (E6.raw (o := .lst (vs ++ [v])) hD6 gD6 (fun z => nOt (s56.o D z)) d0.1 d0.2.1).wipe (own.map (·.2)) hpf
          rw [hw] at E7
          exact E7
    · have e : i = ds.length := by omega
      subst e
      obtain ⟨e1, e2⟩ := done acc Γ' hV
      subst e1 e2
      exact .inl ⟨it.stop _ H' leH (Nat.le_refl _), q D vs H' G' (s1.trans sp) (E'.unwipe hno) HD gD hD' al⟩
theorem pts_no : PTs X [] (tDT X.K F Γ true Γ) := ⟨fun pins s σ H Q I ⟨G, E, q⟩ => pts_nil.run pins s σ H Q I (q H G Step.refl E)⟩
theorem pts_if {k : Bool} (h : PT X c (tDT X.K F Γ k Γ)) : PTs X [c] (tDT X.K F Γ k Γ) := pts_one h
end
section
variable {X : Cx} {F : Fx} {Γ Γ1 Γ2 : List Sl} {a b : Expr} {pos p : Pos} {K : PySem.W.Frag}
def zipD (as bs : List PyData) : List PyData := List.zipWith (fun x y => .tuple [x, y]) as bs
theorem zipD_get {as bs : List PyData} {i : Nat} {x y : PyData} (h1 : as[i]? = some x) (h2 : bs[i]? = some y) : (zipD as bs)[i]? = some (.tuple [x, y]) := by
  unfold zipD
  rw [List.getElem?_zipWith, h1, h2]
theorem zipD_len (as bs : List PyData) : (zipD as bs).length = min as.length bs.length := by unfold zipD; rw [List.length_zipWith]
theorem itd_zipL {G : Hp} {p1 p2 : Addr} {v1 v2 : List V} {as bs : List PyData} (q1 : Rd G p1 (.lst v1)) (a1 : DqAll K G v1 as) (q2 : Rd G p2 (.lst v2)) (a2 : DqAll K G v2 bs) : ItD K G (Itz K p1 p2) (zipD as bs) where
  go := fun i H e hi => by
    rw [zipD_len] at hi
    obtain ⟨x, hx, _⟩ := dpa_get (i := i) a1 (List.getElem?_eq_getElem (by omega))
    obtain ⟨y, hy, _⟩ := dpa_get (i := i) a2 (List.getElem?_eq_getElem (by omega))
    exact ⟨v1, v2, x, y, .inl (rd_mono e q1), .inl (rd_mono e q2), hx, hy⟩
  yl := fun i H G1 x H' e1 e2 hi ⟨T, x1, x2, ex, hT, eH, f1, f2⟩ => by
    rw [zipD_len] at hi
    obtain ⟨x, hx, dx⟩ := dpa_get (i := i) a1 (List.getElem?_eq_getElem (by omega))
    obtain ⟨y, hy, dy⟩ := dpa_get (i := i) a2 (List.getElem?_eq_getElem (by omega))
    have h1 : x1 = x := Option.some.inj ((f1 _ (.inl (rd_mono (e1.trans e2) q1))).symm.trans hx)
    have h2 : x2 = y := Option.some.inj ((f2 _ (.inl (rd_mono (e1.trans e2) q2))).symm.trans hy)
    subst h1 h2 ex eH
    have g1 : G1 T = none := by
      cases z : G1 T with
      | none => rfl
      | some o => have := e2 T o z; rw [hT] at this; cases this
    refine ⟨_, zipD_get (List.getElem?_eq_getElem (by omega)) (List.getElem?_eq_getElem (by omega)), .inr ⟨T, _, hT, (fun _ z => by cases z), rfl, .tup (SqT.of upd_same) (.cons ?_ (.cons ?_ .nil))⟩⟩
    · exact dp_mono (e1.trans (same_upd g1)) _ _ dx
    · exact dp_mono (e1.trans (same_upd g1)) _ _ dy
  stop := fun i H e hi => by
    rw [zipD_len] at hi
    refine ⟨v1, v2, .inl (rd_mono e q1), .inl (rd_mono e q2), ?_⟩
    rw [dpa_len a1, dpa_len a2]
    omega
theorem itd_zipT {G : Hp} {p1 p2 : Addr} {v1 v2 : List V} {as bs : List PyData} (q1 : SqT K G p1 v1) (a1 : DqAll K G v1 as) (q2 : SqT K G p2 v2) (a2 : DqAll K G v2 bs) : ItD K G (RZ.ItzT K p1 p2) (zipD as bs) where
  go := fun i H e hi => by
    rw [zipD_len] at hi
    obtain ⟨x, hx, _⟩ := dpa_get (i := i) a1 (List.getElem?_eq_getElem (by omega))
    obtain ⟨y, hy, _⟩ := dpa_get (i := i) a2 (List.getElem?_eq_getElem (by omega))
    exact ⟨v1, v2, x, y, sqT_mono e q1, sqT_mono e q2, hx, hy⟩
  yl := fun i H G1 x H' e1 e2 hi ⟨T, x1, x2, ex, hT, eH, f1, f2⟩ => by
    rw [zipD_len] at hi
    obtain ⟨x, hx, dx⟩ := dpa_get (i := i) a1 (List.getElem?_eq_getElem (by omega))
    obtain ⟨y, hy, dy⟩ := dpa_get (i := i) a2 (List.getElem?_eq_getElem (by omega))
    have h1 : x1 = x := Option.some.inj ((f1 _ (sqT_mono (e1.trans e2) q1)).symm.trans hx)
    have h2 : x2 = y := Option.some.inj ((f2 _ (sqT_mono (e1.trans e2) q2)).symm.trans hy)
    subst h1 h2 ex eH
    have g1 : G1 T = none := by
      cases z : G1 T with
      | none => rfl
      | some o => have := e2 T o z; rw [hT] at this; cases this
    refine ⟨_, zipD_get (List.getElem?_eq_getElem (by omega)) (List.getElem?_eq_getElem (by omega)), .inr ⟨T, _, hT, (fun _ z => by cases z), rfl, .tup (SqT.of upd_same) (.cons ?_ (.cons ?_ .nil))⟩⟩
    · exact dp_mono (e1.trans (same_upd g1)) _ _ dx
    · exact dp_mono (e1.trans (same_upd g1)) _ _ dy
  stop := fun i H e hi => by
    rw [zipD_len] at hi
    refine ⟨v1, v2, sqT_mono e q1, sqT_mono e q2, ?_⟩
    rw [dpa_len a1, dpa_len a2]
    omega
theorem di_zipL {as bs : List PyData} {elts : List Expr} {kk : Nat} {tpos : Pos} (ha : PA X [a, b] (tDA X.K F Γ [.dat (.list as), .dat (.list bs)] Γ1)) (hm : X.mg "zip" = none) (hg : Gl X "zip" := by rfl) (hs : starEach [a, b] X.env = (false, eval a X.env) :: starEach [b] X.env := by rfl) (hpl : (backTo pos (starEach [b] X.env)).any (·.1) = false := by rfl) :
    PI X (.Tuple elts kk tpos) (.Call (.Name "zip" p) [a, b] [] pos) (tI X.K F Γ (zipD as bs) Γ1) := by
  have h := RZ.pi_zipA (elts := elts) (kk := kk) (tpos := tpos) (p := p) (pos := pos) hg hm ha hs hpl
  refine ⟨fun pins s σ H R I ⟨G, E, q⟩ => h.run pins s σ H R I ⟨G, E, fun vs H1 G1 s1 E1 v1 => ?_⟩⟩
  obtain ⟨v, w, rfl, h1, h2⟩ := paired2 v1
  obtain ⟨p1, u1, rfl, q1, a1⟩ := dp_lst h1
  obtain ⟨p2, u2, rfl, q2, a2⟩ := dp_lst h2
  exact ⟨p1, p2, u1, u2, rfl, .inl ⟨.inl (rd_mono E1.le (.inl q1)), .inl (rd_mono E1.le (.inl q2)), q _ H1 G1 s1 E1 (itd_zipL (.inl q1) a1 (.inl q2) a2)⟩⟩
theorem di_zipT {as bs : List PyData} {elts : List Expr} {kk : Nat} {tpos : Pos} (ha : PA X [a, b] (tDA X.K F Γ [.dat (.tuple as), .dat (.tuple bs)] Γ1)) (hm : X.mg "zip" = none) (hg : Gl X "zip" := by rfl) (hs : starEach [a, b] X.env = (false, eval a X.env) :: starEach [b] X.env := by rfl) (hpl : (backTo pos (starEach [b] X.env)).any (·.1) = false := by rfl) :
    PI X (.Tuple elts kk tpos) (.Call (.Name "zip" p) [a, b] [] pos) (tI X.K F Γ (zipD as bs) Γ1) := by
  have h := RZ.pi_zipA (elts := elts) (kk := kk) (tpos := tpos) (p := p) (pos := pos) hg hm ha hs hpl
  refine ⟨fun pins s σ H R I ⟨G, E, q⟩ => h.run pins s σ H R I ⟨G, E, fun vs H1 G1 s1 E1 v1 => ?_⟩⟩
  obtain ⟨v, w, rfl, h1, h2⟩ := paired2 v1
  obtain ⟨p1, u1, rfl, q1, a1⟩ := dp_tup h1
  obtain ⟨p2, u2, rfl, q2, a2⟩ := dp_tup h2
  exact ⟨p1, p2, u1, u2, rfl, .inr ⟨sqT_mono E1.le q1, sqT_mono E1.le q2, q _ H1 G1 s1 E1 (itd_zipT q1 a1 q2 a2)⟩⟩
def enumD (as : List PyData) : List PyData := (List.range as.length).zipWith (fun i x => .tuple [.int ((i : Nat) : Int), x]) as
theorem enumD_len (as : List PyData) : (enumD as).length = as.length := by unfold enumD; rw [List.length_zipWith, List.length_range, Nat.min_self]
theorem enumD_get {as : List PyData} {i : Nat} {x : PyData} (h : as[i]? = some x) : (enumD as)[i]? = some (.tuple [.int (i : Int), x]) := by
  unfold enumD
  have hi : i < as.length := (List.getElem?_eq_some_iff.mp h).1
  rw [List.getElem?_zipWith, h, List.getElem?_range hi]
theorem itd_enumL {G : Hp} {p1 : Addr} {v1 : List V} {as : List PyData} (q1 : Rd G p1 (.lst v1)) (a1 : DqAll K G v1 as) : ItD K G (Ite K p1) (enumD as) where
  go := fun i H e hi => by
    rw [enumD_len] at hi
    obtain ⟨x, hx, _⟩ := dpa_get (i := i) a1 (List.getElem?_eq_getElem hi)
    exact ⟨v1, x, .inl (rd_mono e q1), hx⟩
  yl := fun i H G1 x H' e1 e2 hi ⟨T, x1, ex, hT, eH, f1⟩ => by
    rw [enumD_len] at hi
    obtain ⟨x, hx, dx⟩ := dpa_get (i := i) a1 (List.getElem?_eq_getElem hi)
    have h1 : x1 = x := Option.some.inj ((f1 _ (.inl (rd_mono (e1.trans e2) q1))).symm.trans hx)
    subst h1 ex eH
    have g1 : G1 T = none := by
      cases z : G1 T with
      | none => rfl
      | some o => have := e2 T o z; rw [hT] at this; cases this
    exact ⟨_, enumD_get (List.getElem?_eq_getElem hi), .inr ⟨T, _, hT, (fun _ z => by cases z), rfl, .tup (SqT.of upd_same) (.cons (.int _) (.cons (dp_mono (e1.trans (same_upd g1)) _ _ dx) .nil))⟩⟩
  stop := fun i H e hi => by
    rw [enumD_len] at hi
    exact ⟨v1, .inl (rd_mono e q1), by rw [dpa_len a1]; exact hi⟩
theorem di_enumL {as : List PyData} {elts : List Expr} {kk : Nat} {tpos : Pos} (ha : PE X a (tD X.K F Γ (.dat (.list as)) Γ1)) (hm : X.mg "enumerate" = none) (hg : Gl X "enumerate" := by rfl) (hs : starEach [a] X.env = [(false, eval a X.env)] := by rfl) :
    PI X (.Tuple elts kk tpos) (.Call (.Name "enumerate" p) [a] [] pos) (tI X.K F Γ (enumD as) Γ1) := by
  have h := pi_enum (elts := elts) (kk := kk) (tpos := tpos) (p := p) (pos := pos) hg hm (da_cons ha da_nil hs) hs
  refine ⟨fun pins s σ H R I ⟨G, E, q⟩ => h.run pins s σ H R I ⟨G, E, fun vs H1 G1 s1 E1 v1 => ?_⟩⟩
  obtain ⟨v, rfl, h1⟩ := paired1 v1
  obtain ⟨p1, u1, rfl, q1, a1⟩ := dp_lst h1
  exact ⟨p1, u1, rfl, .inl (rd_mono E1.le (.inl q1)), q _ H1 G1 s1 E1 (itd_enumL (.inl q1) a1)⟩
end
end AM

set_option Elab.async false
set_option linter.all false
set_option maxRecDepth 100000
set_option maxHeartbeats 2000000
namespace AM
open PySem PySem.Spec PyProof.Rows L2
def spB (K : PySem.W.Frag) (R : List PyData → List PyData → PyData → List PyData → Prop) : Sp := fun vs H Q _ => ∃ G p xs ds bs ws d xs', vs = .ref p :: ws ∧ Same G H ∧ NT G ∧ G p = none ∧ H p = some (.lst bs) ∧ DqAll K G bs xs ∧ DqAll K G ws ds ∧ R xs ds d xs' ∧
  ∀ v H' G' bs', (∀ a o, a ≠ p → H a = some o → H' a = some o) → Same G G' → Same G' H' → (∀ a o, G' a = some o → (∃ o', G a = some o') ∨ H a = none) → NT G' → H' p = some (.lst bs') → DqAll K G' bs' xs' → Dq K G' v d → Q v H'
def wantB (d : PyData) (xs : List PyData) : Out → Prop
  | .rt d' Γ => d' = d ∧ lk Γ 0 = .own xs
  | .nx Γ => d = .none ∧ lk Γ 0 = .own xs
  | _ => False
def startB (N : Nat) (xs ds : List PyData) : List Sl := .own xs :: (ds.map .dat ++ List.replicate (N - 1 - ds.length) .no)
section
variable {P : Program} {w : World} {K : PySem.W.Frag} {mg : Str → Option Value} {base : Heap}
def fxB (i : Nat) (p : Addr) (H G : Hp) (T : List (Addr × Str) := []) : Fx := ⟨[(i, p)], H, G, T⟩
theorem fxB_M {i : Nat} {p : Addr} {H G : Hp} {a : Addr} : (fxB i p H G).M a ↔ a = p := by
  constructor
  · rintro (⟨j, h⟩ | ⟨q, h⟩)
    · rcases List.mem_cons.mp h with h | h
      · cases h; rfl
      · cases h
    · cases h
  · rintro rfl
    exact .inl ⟨i, List.mem_cons_self⟩
theorem fxB_MT {i : Nat} {p : Addr} {H G : Hp} {T : List (Addr × Str)} {a : Addr} : (fxB i p H G T).M a ↔ a = p ∨ ∃ q, (a, q) ∈ T := by
  constructor
  · rintro (⟨j, h⟩ | h)
    · rcases List.mem_cons.mp h with h | h
      · cases h; exact .inl rfl
      · cases h
    · exact .inr h
  · rintro (rfl | h)
    · exact .inl ⟨i, List.mem_cons_self⟩
    · exact .inr h
theorem lk_startB (N : Nat) (xs ds : List PyData) (i : Nat) : lk (startB N xs ds) i = (match i with | 0 => .own xs | i + 1 => (match ds[i]? with | some d => .dat d | none => .no)) := by
  cases i with
  | zero => rfl
  | succ i =>
    show lk (ds.map .dat ++ List.replicate (N - 1 - ds.length) .no) i = _
    exact lk_start (N - 1) ds i
theorem env_startB {G H : Hp} {p : Addr} {bs ws : List V} {xs ds : List PyData} {N : List Str} (sg : Same G H) (nt : NT G) (gp : G p = none) (hp : H p = some (.lst bs)) (hb : DqAll K G bs xs) (ha : DqAll K G ws ds) (hl : ds.length + 1 ≤ N.length) :
    En K (fxB 0 p H G) G (L2.start N (.ref p :: ws)) H (startB N.length xs ds) where
  le := sg
  g0 := Same.r
  fr := fun a o h => .inl ⟨o, h⟩
  base := fun a o _ h => h
  mu := fun a z => by rw [fxB_M] at z; subst z; exact ⟨_, hp⟩
  sl := fun i => by
    rw [lk_startB]
    cases i with
    | zero => exact ⟨p, bs, rfl, gp, hp, hb, .inl (fxB_M.mpr rfl)⟩
    | succ i =>
      show SlOk K _ G H (match ds[i]? with | some d => .dat d | none => .no) _
      cases q : ds[i]? with
      | none => trivial
      | some d =>
        obtain ⟨v, hv, hd⟩ := dpa_get ha q
        refine ⟨v, ?_, hd⟩
        unfold L2.start
        rw [List.getElem?_append_left (by have := (List.getElem?_eq_some_iff.mp hv).1; simp; omega), List.getElem?_map]
        simp [hv]
  nd := fun i j p' ys zs e1 e2 _ _ => by
    have aux : ∀ i ys, lk (startB N.length xs ds) i = .own ys → i = 0 := fun i ys e => by
      rw [lk_startB] at e
      cases i with
      | zero => rfl
      | succ i =>
        have e : (match ds[i]? with | some d => Sl.dat d | none => .no) = .own ys := e
        cases q : ds[i]? <;> rw [q] at e <;> cases e
    rw [aux i ys e1, aux j zs e2]
  len := by
    have e := dpa_len ha
    simp [L2.start, startB, e]
    omega
  pin := fun q hq => by
    rcases List.mem_cons.mp hq with rfl | hq
    · exact ⟨rfl, xs, rfl⟩
    · cases hq
  tab := fun q hq => by cases hq
  nt := nt
theorem fn_bag {x qual : Str} {st : Stmt} {f : Addr} {fd : FuncData} {N ps : List Str} {k : Nat} {R : List PyData → List PyData → PyData → List PyData → Prop} (Fn : FunG K x qual st f fd) (S : FnScope N ps (defScope st)) (len : ∀ xs ds d xs', R xs ds d xs' → ds.length + 1 = ps.length) (hle : ps.length ≤ N.length)
    (body : ∀ (cdv : Value) (A : Around) (outer : List PySem.Env) (s : Shared) (H G : Hp) (E : XK) (p : Addr) (xs ds : List PyData) (d : PyData) (xs' : List PyData), Room k (A.deeper (envOfC qual (defScope st) s.heap.objs.size f cdv)) → R xs ds d xs' →
      PSs (cxOf (L2.CX P w) P w K mg base N qual (defScope st) f cdv A outer s H E) (defBody st) (tS K (fxB 0 p H G) (fun c d _ H => E c d H) (startB N.length xs ds) (wantB d xs'))) : FnOk P w K mg base (L2.CX P w) (k + 1) f fd ps (spB K R) := by
  refine Fn.okX S (fun vs H Q E h => ?_) (fun cdv A outer s H vs Q E hr h => ?_)
  · obtain ⟨G, p, xs, ds, bs, ws, d, xs', rfl, _, _, _, _, _, ha, hR, _⟩ := h
    rw [List.length_cons, dpa_len ha]; exact len _ _ _ _ hR
  · obtain ⟨G, p, xs, ds, bs, ws, d, xs', rfl, sg, nt, gp, hp, hb, ha, hR, q⟩ := h
    refine ⟨_, body cdv A outer s H G E p xs ds d xs' hr hR, ?_⟩
    have E0 := env_startB (K := K) (N := N) sg nt gp hp hb ha (by rw [len _ _ _ _ hR]; exact hle)
    have fin : ∀ {v σ' H' G' Γ'}, Same G G' → En K (fxB 0 p H G) G' σ' H' Γ' → lk Γ' 0 = .own xs' → Dq K G' v d → Q v H' := fun {v σ' H' G' Γ'} g E' e hd => by
      obtain ⟨e1, _⟩ := E'.pin (0, p) List.mem_cons_self
      have s := E'.sl 0
      rw [e] at s
      obtain ⟨p', bs', e2, g2, hp2, ha2, _⟩ := s
      have e1 : σ'[0]? = some (some (.ref p)) := e1
      rw [e1] at e2
      cases e2
      exact q v H' G' bs' (fun a o ne h => E'.base a o (fun z => ne (fxB_M.mp z)) h) g E'.le E'.fr E'.nt hp2 ha2 hd
    refine ⟨G, E0, ?_, ?_, ?_, ?_, ?_⟩
    · intro Γ' σ' H' G' ⟨p1, p2⟩ g E'
      subst p1
      exact fin g E' p2 .non
    · intro d' Γ' v σ' H' G' ⟨p1, p2⟩ g E' hd
      subst p1
      exact fin g E' p2 hd
    · intro Γ' σ' H' G' p; exact p.elim
    · intro Γ' σ' H' G' p; exact p.elim
    · intro c Γ' σ' H' G' p; exact p.elim
end
section
variable {X : Cx} {F : Fx} {Γ Γ1 Γ2 : List Sl} {a e : Expr} {es : List Expr} {pos p : Pos} {k : Nat} {f : Addr} {fd : FuncData} {ps : List Str} {x : Str} {R : List PyData → List PyData → PyData → List PyData → Prop} {rs : List Rv} {xs xs' ds : List PyData} {d : PyData} {i : Nat}
theorem de_bag (Gf : FnOk X.prog X.w X.K X.mg X.base (L2.CX X.prog X.w) k f fd ps (spB X.K R)) (hr : Room k X.A) (hm : X.mg x = some (.ref f)) (hk : PySem.W.keepIn X.K (.ref f) = true) (hb : Binds X.K fd ps []) (ha : PA X (e :: es) (tDA X.K F Γ (.al i :: rs) Γ1)) (hR : R xs ds d xs') (hl : lk Γ1 i = .own xs := by rfl) (hd : datS rs = some ds := by rfl)
    (hg : Gl X x := by rfl) (hdb : (x == ("__debug__" : Str)) = false := by decide) (he : starEach (e :: es) X.env = (false, eval e X.env) :: starEach es X.env := by rfl) (hpl : (backTo pos (starEach es X.env)).any (·.1) = false := by rfl) :
    PE X (.Call (.Name x p) (e :: es) [] pos) (tD X.K F Γ (.dat d) (st Γ1 i (.own xs'))) :=
  pe_imp (pe_callS (E := WE fun _ _ _ _ => False) Gf hr hg hm hk hb (fun σ => passAt takes0 σ) ha hdb he hpl) fun σ H Q ⟨G, E, q⟩ => ⟨G, E, fun vs H1 G1 s1 E1 v1 => by
    cases v1 with
    | cons hv v1 =>
      rename_i v0 ws
      obtain ⟨p, bs, es', gp, hp, hbs⟩ := own_at E1 hl
      have hv : σ[i]? = some (some v0) := hv
      rw [es'] at hv
      have : V.ref p = v0 := Option.some.inj (Option.some.inj hv)
      subst this
      refine ⟨G1, p, xs, ds, bs, ws, d, xs', rfl, E1.le, E1.nt, gp, hp, hbs, datS_dp v1 hd, hR, fun v H' G' bs' k1 g1 le1 f1 nt1 hp' hb' hv' => ?_⟩
      have hi : i < Γ1.length := by
        apply Classical.byContradiction
        intro z
        rw [lk_big _ _ (by omega)] at hl
        cases hl
      have gp' : G' p = none := by
        cases z : G' p with
        | none => rfl
        | some o =>
          rcases f1 p o z with ⟨o', z'⟩ | z'
          · rw [gp] at z'; cases z'
          · rw [hp] at z'; cases z'
      have hO : Own σ Γ1 p := ⟨i, xs, hl, es'⟩
      have hown := E1.sl i
      rw [hl] at hown
      obtain ⟨p2, bs2, e2, _, _, _, hm2⟩ := hown
      rw [es'] at e2
      cases e2
      refine q v H' G' (s1.trans ⟨g1, fun a o h => (f1 a o h).imp id Nl.none, fun a o h n _ => k1 a o (fun z => n (by rw [z]; exact hO)) h, fun a ⟨j, ys, z1, z2⟩ => ?_, fun a us h => ?_⟩) ⟨le1, fun a o h => g1 a o (E1.g0 a o h), fun a o h => ?_, fun a o n h => ?_, fun a m => ?_, fun j => ?_, fun a b p' ys zs e1 e2 e3 e4 => ?_, by rw [st_length]; exact E1.len, fun q hq => ⟨(E1.pin q hq).1, ?_⟩, tabs_keep E1.tab fun a o h n => k1 a o (fun z => n bs (by rw [z, hp] at h; exact (Option.some.inj h).symm)) h, nt1⟩ hv'
      · by_cases w : i = j
        · subst w; exact ⟨i, xs, hl, z2⟩
        · rw [lk_st_ne _ _ _ _ w] at z1; exact ⟨j, ys, z1, z2⟩
      · by_cases w : a = p
        · subst w; exact ⟨_, hp'⟩
        · exact ⟨us, k1 a _ w h⟩
      · rcases f1 a o h with ⟨o', h'⟩ | h'
        · exact E1.fr a o' h'
        · exact .inr (E1.no h').1
      · have := E1.base a o n h
        refine k1 a o (fun w => ?_) this
        subst w
        rcases hm2 with m | m
        · exact n m
        · rw [m] at h; cases h
      · obtain ⟨o, h⟩ := E1.mu a m
        by_cases w : a = p
        · subst w; exact ⟨_, hp'⟩
        · exact ⟨o, k1 a o w h⟩
      · by_cases w : i = j
        · subst w
          rw [lk_st_same _ _ _ hi]
          exact ⟨p, bs', es', gp', hp', hb', hm2⟩
        · rw [lk_st_ne _ _ _ _ w]
          have s := E1.sl j
          cases ql : lk Γ1 j with
          | no => trivial
          | dat d' => rw [ql] at s; obtain ⟨v', z1, z2⟩ := s; exact ⟨v', z1, dp_mono g1 _ _ z2⟩
          | own zs =>
            rw [ql] at s
            obtain ⟨a', ws', e3, g3, hp3, ha3, hm3⟩ := s
            have ne : a' ≠ p := fun z => by
              subst z
              exact w (E1.nd i j a' xs zs hl ql es' e3)
            refine ⟨a', ws', e3, ?_, k1 _ _ ne hp3, dpa_mono g1 _ _ ha3, hm3⟩
            cases z : G' a' with
            | none => rfl
            | some o =>
              rcases f1 a' o z with ⟨o', z'⟩ | z'
              · rw [g3] at z'; cases z'
              · rw [hp3] at z'; cases z'
      · have aux : ∀ c zs, lk (st Γ1 i (.own xs')) c = .own zs → ∃ zs', lk Γ1 c = .own zs' := fun c zs h => by
          by_cases w : i = c
          · subst w; exact ⟨xs, hl⟩
          · rw [lk_st_ne _ _ _ _ w] at h; exact ⟨zs, h⟩
        obtain ⟨y1, h1⟩ := aux a ys e1
        obtain ⟨y2, h2⟩ := aux b zs e2
        exact E1.nd a b p' y1 y2 h1 h2 e3 e4
      · by_cases w : i = q.1
        · rw [← w, lk_st_same _ _ _ hi]; exact ⟨xs', rfl⟩
        · rw [lk_st_ne _ _ _ _ w]; exact (E1.pin q hq).2⟩
end
structure Bag where
  x : Int
  y : Int
  z : Int
def bagD (b : Bag) : List PyData := [.int b.x, .int b.y, .int b.z]
def bagV (b : Bag) : List V := [.int b.x, .int b.y, .int b.z]
structure BagOk (n : Int) (b : Bag) : Prop where
  y0 : 0 ≤ b.y
  y1 : b.y < 2305843009213693951
  z0 : 0 ≤ b.z
  z1 : b.z ≤ n
theorem BagOk.mono {n m : Int} {b : Bag} (h : BagOk n b) (e : n ≤ m) : BagOk m b := ⟨h.y0, h.y1, h.z0, Int.le_trans h.z1 e⟩
def P61 : Int := 2305843009213693951
def take (b : Bag) (m : Int) : Int × Bag :=
  if 0 < b.x then (b.x.fmod m, ⟨b.x.fdiv m, b.y, b.z⟩)
  else
    let n := (b.y + 1000003 * (b.z + 1)).fmod P61
    let n2 := (n * n + 7919 * (b.z + 1) ^ 2 + 5).fmod P61
    ((((n2 ^ 3).fmod P61).fdiv 13).fmod m, ⟨b.x, b.y, b.z + 1⟩)
theorem fmod_rng (a : Int) {m : Int} (h : 0 < m) : 0 ≤ a.fmod m ∧ a.fmod m < m := ⟨by rw [Int.fmod_eq_emod_of_nonneg _ (by omega)]; exact Int.emod_nonneg _ (by omega), by rw [Int.fmod_eq_emod_of_nonneg _ (by omega)]; exact Int.emod_lt_of_pos _ h⟩
theorem take_rng (b : Bag) {m : Int} (h : 0 < m) : 0 ≤ (take b m).1 ∧ (take b m).1 < m := by
  unfold take
  split
  · exact fmod_rng _ h
  · exact fmod_rng _ h
theorem take_ok {n : Int} {b : Bag} (h : BagOk n b) (m : Int) : BagOk (n + 1) (take b m).2 := by
  have h1 := h.z0
  have h2 := h.z1
  unfold take
  split
  · exact ⟨h.y0, h.y1, h.z0, by show b.z ≤ n + 1; omega⟩
  · exact ⟨h.y0, h.y1, by show 0 ≤ b.z + 1; omega, by show b.z + 1 ≤ n + 1; omega⟩
def tBags (K : PySem.W.Frag) : TE := fun σ H Q => (∃ (a : Addr) (ns : List Int), σ[0]? = some (some (.ref a)) ∧ SqL K H a (ns.map V.int) ∧ ns.length ≤ 63) ∧
  ∀ (l : Addr) (bs : List Addr) (H' : Hp), Same H H' → H' l = some (.lst (bs.map V.ref)) → bs.Nodup → l ∉ bs → (∀ b ∈ bs, ∃ B : Bag, BagOk 100000 B ∧ H' b = some (.lst (bagV B))) → Q (.ref l) H'
def bagΓ (n ib : Nat) (B : Bag) : List Sl := st (List.replicate n .no) ib (.own (bagD B))
def lawP (n : Nat) : Out → Prop
  | .nx Γ => Γ.length = n
  | .ct Γ => Γ.length = n
  | _ => False
theorem lk_rep (n i : Nat) : lk (List.replicate n Sl.no) i = .no := by
  induction n generalizing i with
  | zero => rfl
  | succ n ih =>
    cases i with
    | zero => rfl
    | succ i => exact ih i
theorem bagV_D {K : PySem.W.Frag} {G : Hp} (B : Bag) : DqAll K G (bagV B) (bagD B) := .cons (.int _) (.cons (.int _) (.cons (.int _) .nil))
def cln (H : Hp) : Hp := fun a => match H a with
  | some (.tbl _) => none
  | o => o
theorem cln_le (H : Hp) : Same (cln H) H := fun a o h => by
  unfold cln at h
  cases q : H a with
  | none => rw [q] at h; cases h
  | some u => rw [q] at h; cases u <;> first | exact h | cases h
theorem cln_nt (H : Hp) : NT (cln H) := fun a o h ps z => by
  subst z
  unfold cln at h
  cases q : H a with
  | none => rw [q] at h; cases h
  | some u => rw [q] at h; cases u <;> cases h
theorem cln_lst {H : Hp} {a : Addr} {vs : List V} (h : H a = some (.lst vs)) : cln H a = some (.lst vs) := by unfold cln; rw [h]
theorem env_bag {K : PySem.W.Frag} {H : Hp} {σ : L2.St} {n ib : Nat} {p : Addr} {B : Bag} {T : List (Addr × Str)} (hl : σ.length = n) (hi : ib < n) (hp : H p = some (.lst (bagV B))) (es : σ[ib]? = some (some (.ref p))) (tb : LamX.Tabs T H) : En K (fxB ib p (cln H) (fun _ => none) T) (fun _ => none) σ H (bagΓ n ib B) := by
  have hn : ib < (List.replicate n Sl.no).length := by rw [List.length_replicate]; exact hi
  have lkE : ∀ j, lk (bagΓ n ib B) j = if ib = j then .own (bagD B) else .no := fun j => by
    unfold bagΓ
    by_cases w : ib = j
    · subst w; rw [if_pos rfl]; exact lk_st_same _ _ _ hn
    · rw [if_neg w, lk_st_ne _ _ _ _ w, lk_rep]
  refine ⟨fun a o h => (by cases h), fun a o h => (by cases h), fun a o h => (by cases h), fun a o _ h => cln_le H a o h, fun a m => ?_, fun j => ?_, fun i j p' xs ys e1 e2 _ _ => ?_, ?_, fun q hq => ?_, tb, fun a o h => (by cases h)⟩
  · rw [fxB_MT] at m
    rcases m with rfl | ⟨q, m⟩
    · exact ⟨_, hp⟩
    · obtain ⟨ps, h1, _⟩ := tb _ m
      exact ⟨_, h1⟩
  · rw [lkE]
    by_cases w : ib = j
    · subst w
      rw [if_pos rfl]
      exact ⟨p, _, es, rfl, hp, bagV_D B, .inl (fxB_MT.mpr (.inl rfl))⟩
    · rw [if_neg w]; trivial
  · rw [lkE] at e1 e2
    by_cases w1 : ib = i
    · by_cases w2 : ib = j
      · rw [← w1, ← w2]
      · rw [if_neg w2] at e2; cases e2
    · rw [if_neg w1] at e1; cases e1
  · unfold bagΓ; rw [st_length, List.length_replicate]; exact hl
  · rcases List.mem_cons.mp hq with rfl | hq
    · exact ⟨es, bagD B, by rw [lkE, if_pos rfl]⟩
    · cases hq
def tBody (K : PySem.W.Frag) (n ib : Nat) (T : List (Addr × Str)) : TS := fun D σ H => ∃ (H0 : Hp) (p : Addr) (B : Bag), BagOk 100000 B ∧ NT H0 ∧ tS K (fxB ib p H0 (fun _ => none) T) (fun _ _ _ _ => False) (bagΓ n ib B) (lawP n) D σ H
theorem law_loop {X : Cx} {iter : Expr} {body : List Stmt} {x : Str} {n : Nat} {p1 p2 p3 p4 : Pos} {j : Nat} {T : List (Addr × Str)} (ib : Nat) (hit : PE X iter (tBags X.K)) (hN : X.N.Nodup) (hn : X.N.length = n) (hp : PassesOwn (model X.prog X.w) X.A X.env X.xe) (hib : ib < n)
    (hb : ∀ (H : Hp) (p : Addr) (B : Bag), BagOk 100000 B → NT H → PSs X body (tS X.K (fxB ib p H (fun _ => none) T) (fun _ _ _ _ => False) (bagΓ n ib B) (lawP n)))
    (hi : X.N[ib]? = some x := by rfl) (hx : Loc X.env.scope x := by first | exact Or.inl rfl | exact Or.inr rfl) (hc : X.calm = true := by rfl) (hf : X.fn x = true ∨ X.env.scope.names.lookup x = some .local := by first | exact .inl rfl | exact .inr rfl) (hs : ∀ x, foldedSetIterable iter X.env x = pure x := by intro _; rfl) :
    PSs X [.For (.Name x p1) iter body [] p2, .Return (some (.Constant (.bool true) j p3)) p4] (fun D σ H => σ.length = n ∧ (∃ (a : Addr) (ns : List Int), σ[0]? = some (some (.ref a)) ∧ SqL X.K H a (ns.map V.int) ∧ ns.length ≤ 63) ∧ LamX.Tabs T H ∧ ∀ H', D.rt (.bl true) H') := by
  have hB : PSs X body (tBody X.K n ib T) := ⟨fun pins s σ H D I ⟨H0, p, B, ok, nt, q⟩ => (hb H0 p B ok nt).run pins s σ H D I q⟩
  refine pss_imp (pss_cons (ps_for hp hc (pi_list hit) (pg_name hN hi hx hf) hB hs) (pss_one (ps_ret pe_bl))) fun D σ H ⟨hl, hsc, tb0, q⟩ => ⟨hsc, fun l bs H1 sm1 h1 nd nl hbs => ⟨l, rfl, ⟨_, .inl (.inl h1)⟩, ?_⟩⟩
  refine for_list (K := X.K) (a := l) (xs := bs.map V.ref) (g := gName ib) (tb := tBody X.K n ib T) (D := { D with nx := tRet (tC (.bl true)) D }) (fun i σ H => σ.length = n ∧ LamX.Tabs T H ∧ H l = some (.lst (bs.map V.ref)) ∧ ∀ j, i ≤ j → ∀ b, bs[j]? = some b → ∃ B : Bag, BagOk 100000 B ∧ H b = some (.lst (bagV B))) ⟨hl, tb0.ext sm1, h1, fun j _ b e => hbs b (List.mem_of_getElem? e)⟩ (fun i σ H _ ⟨_, _, h, _⟩ => .inl (.inl h)) ?_ ?_
  · rintro i v σ H hv ⟨hl', tb, hL, hBs⟩
    rw [List.getElem?_map] at hv
    obtain ⟨b, hb', rfl⟩ := Option.map_eq_some_iff.mp hv
    obtain ⟨B, ok, hbB⟩ := hBs i (Nat.le_refl _) b hb'
    refine ⟨cln H, b, B, ok, cln_nt H, fun _ => none, env_bag (by rw [List.length_set]; exact hl') hib hbB (List.getElem?_set_self (by rw [hl']; exact hib)) tb, ?_⟩
    have nlb : l ≠ b := fun z => nl (by rw [z]; exact List.mem_of_getElem? hb')
    have fin : ∀ Γ' σ' H' G', Γ'.length = n → En X.K (fxB ib b (cln H) (fun _ => none) T) G' σ' H' Γ' → (σ'.length = n ∧ LamX.Tabs T H' ∧ H' l = some (.lst (bs.map V.ref)) ∧ ∀ j, i + 1 ≤ j → ∀ b, bs[j]? = some b → ∃ B : Bag, BagOk 100000 B ∧ H' b = some (.lst (bagV B))) := fun Γ' σ' H' G' hΓ E' => by
      refine ⟨by rw [E'.len]; exact hΓ, E'.tab, E'.base l _ (fun z => (fxB_MT.mp z).elim nlb (tabs_ne tb hL)) (cln_lst hL), fun j hj c hc' => ?_⟩
      obtain ⟨B', ok', hc2⟩ := hBs j (by omega) c hc'
      refine ⟨B', ok', E'.base c _ (fun z => ?_) (cln_lst hc2)⟩
      have e : c = b := (fxB_MT.mp z).elim id fun z => (tabs_ne tb hc2 z).elim
      subst e
      have := (List.getElem?_inj (by have := (List.getElem?_eq_some_iff.mp hb').1; omega : i < bs.length) nd).mp (hb'.trans hc'.symm)
      omega
    refine ⟨fun Γ' σ' H' G' hp _ E' => fin Γ' σ' H' G' hp E', fun d Γ' v σ' H' G' hp => hp.elim, fun Γ' σ' H' G' hp => hp.elim, fun Γ' σ' H' G' hp _ E' => fin Γ' σ' H' G' hp E', fun c Γ' σ' H' G' hp => hp.elim⟩
  · rintro σ H ⟨_, _, _⟩
    exact q H
def spLaw (K : PySem.W.Frag) (T : List (Addr × Str) := []) : Sp := fun vs H Q _ => ∃ (a : Addr) (ns : List Int), vs = [.ref a] ∧ SqL K H a (ns.map V.int) ∧ ns.length ≤ 63 ∧ LamX.Tabs T H ∧ ∀ H', Q (.bl true) H'
def spWell (K : PySem.W.Frag) : Sp := fun vs H Q _ => ∃ (c t : Int), vs = [.int c, .int t] ∧ 0 ≤ t ∧ t ≤ 100000 ∧ ∀ p H' B, Same H H' → H p = none → H' p = some (.lst (bagV B)) → BagOk 100000 B → Q (.ref p) H'
def spBags (K : PySem.W.Frag) : Sp := fun vs H Q _ => ∃ (a : Addr) (ns : List Int) (m : Int), vs = [.ref a, .int m] ∧ SqL K H a (ns.map V.int) ∧ ns.length ≤ 63 ∧
  ∀ (l : Addr) (bs : List Addr) (H' : Hp), Same H H' → H' l = some (.lst (bs.map V.ref)) → bs.Nodup → l ∉ bs → (∀ b ∈ bs, ∃ B : Bag, BagOk 100000 B ∧ H' b = some (.lst (bagV B))) → Q (.ref l) H'
end AM

set_option Elab.async false
set_option linter.all false
set_option maxRecDepth 100000
set_option maxHeartbeats 2000000
namespace AM
open PySem PySem.Spec PyProof.Rows L2
structure Bt (mg : Str → Option Value) : Prop where
  isi : mg "isinstance" = none
  int : mg "int" = none
  bool : mg "bool" = none
  str : mg "str" = none
  list : mg "list" = none
  tuple : mg "tuple" = none
  len : mg "len" = none
  abs : mg "abs" = none
  max : mg "max" = none
  min : mg "min" = none
  all : mg "all" = none
  any : mg "any" = none
  sum : mg "sum" = none
  range : mg "range" = none
  enum : mg "enumerate" = none
  zip : mg "zip" = none
  sorted : mg "sorted" = none
  dict : mg "dict" = none
  set : mg "set" = none
theorem bt_int : bootBuiltins "int" = some (.type "int") := by decide +kernel
theorem bt_bool : bootBuiltins "bool" = some (.type "bool") := by decide +kernel
theorem bt_str : bootBuiltins "str" = some (.type "str") := by decide +kernel
theorem bt_list : bootBuiltins "list" = some (.type "list") := by decide +kernel
theorem bt_tuple : bootBuiltins "tuple" = some (.type "tuple") := by decide +kernel
structure Def (K : PySem.W.Frag) (mg : Str → Option Value) (x : Str) (st : Stmt) (ps : List Str) : Prop where
  ex : ∃ f fd, FunG K x x st f fd ∧ mg x = some (.ref f) ∧ Binds K fd ps []
structure Cal (P : Program) (w : World) (K : PySem.W.Frag) (mg : Str → Option Value) (base : Heap) (k : Nat) (x : Str) (ps : List Str) (sp : Sp) : Prop where
  ex : ∃ f fd, FnOk P w K mg base (L2.CX P w) k f fd ps sp ∧ mg x = some (.ref f) ∧ PySem.W.keepIn K (.ref f) = true ∧ Binds K fd ps []
section
variable {P : Program} {w : World} {K : PySem.W.Frag} {mg : Str → Option Value} {base : Heap} {k : Nat} {x : Str} {st : Stmt} {N ps : List Str} {sp sp' : Sp}
theorem Cal.mono {j : Nat} (C : Cal P w K mg base j x ps sp) (h : j ≤ k) : Cal P w K mg base k x ps sp := by
  obtain ⟨f, fd, h1, h2, h3, h4⟩ := C.ex
  exact ⟨f, fd, h1.mono h, h2, h3, h4⟩
theorem Cal.imp (C : Cal P w K mg base k x ps sp) (h : ∀ vs H Q E, sp' vs H Q E → sp vs H Q E) : Cal P w K mg base k x ps sp' := by
  obtain ⟨f, fd, h1, h2, h3, h4⟩ := C.ex
  exact ⟨f, fd, h1.imp h, h2, h3, h4⟩
theorem cal_pure {R : List PyData → Res → Prop} (D : Def K mg x st ps) (S : FnScope N ps (defScope st)) (len : ∀ ds r, R ds r → ds.length = ps.length) (hle : ps.length ≤ N.length)
    (body : ∀ (f : Addr) (cdv : Value) (A : Around) (outer : List PySem.Env) (s : Shared) (H G : Hp) (E : XK) (ds : List PyData) (r : Res), Room k (A.deeper (envOfC x (defScope st) s.heap.objs.size f cdv)) → R ds r →
      PSs (cxOf (L2.CX P w) P w K mg base N x (defScope st) f cdv A outer s H E) (defBody st) (tS K (fx0 H G) (fun c d _ H => E c d H) (startG N.length ds) (wantP r))) : Cal P w K mg base (k + 1) x ps (spP K R) := by
  obtain ⟨f, fd, F, h1, h2⟩ := D.ex
  exact ⟨f, fd, fn_pure F S len hle (body f), h1, F.kp, h2⟩
theorem cal_bag {R : List PyData → List PyData → PyData → List PyData → Prop} (D : Def K mg x st ps) (S : FnScope N ps (defScope st)) (len : ∀ xs ds d xs', R xs ds d xs' → ds.length + 1 = ps.length) (hle : ps.length ≤ N.length)
    (body : ∀ (f : Addr) (cdv : Value) (A : Around) (outer : List PySem.Env) (s : Shared) (H G : Hp) (E : XK) (p : Addr) (xs ds : List PyData) (d : PyData) (xs' : List PyData), Room k (A.deeper (envOfC x (defScope st) s.heap.objs.size f cdv)) → R xs ds d xs' →
      PSs (cxOf (L2.CX P w) P w K mg base N x (defScope st) f cdv A outer s H E) (defBody st) (tS K (fxB 0 p H G) (fun c d _ H => E c d H) (startB N.length xs ds) (wantB d xs'))) : Cal P w K mg base (k + 1) x ps (spB K R) := by
  obtain ⟨f, fd, F, h1, h2⟩ := D.ex
  exact ⟨f, fd, fn_bag F S len hle (body f), h1, F.kp, h2⟩
theorem cal_raw (D : Def K mg x st ps) (S : FnScope N ps (defScope st)) (len : ∀ vs H Q E, sp vs H Q E → vs.length = ps.length)
    (body : ∀ (f : Addr) (cdv : Value) (A : Around) (outer : List PySem.Env) (s : Shared) (H : Hp) (vs : List V) (Q : VK) (E : XK), Room k (A.deeper (envOfC x (defScope st) s.heap.objs.size f cdv)) → sp vs H Q E →
      ∃ t, PSs (cxOf (L2.CX P w) P w K mg base N x (defScope st) f cdv A outer s H E) (defBody st) t ∧ t { nx := fun _ H' => Q .non H', rt := Q } (L2.start N vs) H) : Cal P w K mg base (k + 1) x ps sp := by
  obtain ⟨f, fd, F, h1, h2⟩ := D.ex
  exact ⟨f, fd, F.okX S len (body f), h1, F.kp, h2⟩
end
section
variable {X : Cx} {F : Fx} {Γ Γ1 Γ2 : List Sl} {a b c e : Expr} {es : List Expr} {pos p p2 : Pos} {k : Nat} {ps : List Str} {x : Str} {rs : List Rv} {xs xs' ds : List PyData} {d da : PyData} {i : Nat} {ra : Rv}
theorem dc {R : List PyData → Res → Prop} (C : Cal X.prog X.w X.K X.mg X.base k x ps (spP X.K R)) (hr : Room k X.A) (ha : PA X (e :: es) (tDA X.K F Γ rs Γ1)) (hR : R ds (.ok d)) (hd : datS rs = some ds := by rfl)
    (hg : Gl X x := by rfl) (hdb : (x == ("__debug__" : Str)) = false := by decide) (he : starEach (e :: es) X.env = (false, eval e X.env) :: starEach es X.env := by rfl) (hpl : (backTo pos (starEach es X.env)).any (·.1) = false := by rfl) :
    PE X (.Call (.Name x p) (e :: es) [] pos) (tD X.K F Γ (.dat d) Γ1) := by
  obtain ⟨f, fd, h1, h2, h3, h4⟩ := C.ex
  exact de_call h1 hr h2 h3 h4 ha hR hd hg hdb he hpl
theorem dcb {R : List PyData → List PyData → PyData → List PyData → Prop} (C : Cal X.prog X.w X.K X.mg X.base k x ps (spB X.K R)) (hr : Room k X.A) (ha : PA X (e :: es) (tDA X.K F Γ (.al i :: rs) Γ1)) (hR : R xs ds d xs') (hl : lk Γ1 i = .own xs := by rfl) (hd : datS rs = some ds := by rfl)
    (hg : Gl X x := by rfl) (hdb : (x == ("__debug__" : Str)) = false := by decide) (he : starEach (e :: es) X.env = (false, eval e X.env) :: starEach es X.env := by rfl) (hpl : (backTo pos (starEach es X.env)).any (·.1) = false := by rfl) :
    PE X (.Call (.Name x p) (e :: es) [] pos) (tD X.K F Γ (.dat d) (st Γ1 i (.own xs'))) := by
  obtain ⟨f, fd, h1, h2, h3, h4⟩ := C.ex
  exact de_bag h1 hr h2 h3 h4 ha hR hl hd hg hdb he hpl
theorem de_isiI (B : Bt X.mg) (ha : PE X a (tD X.K F Γ ra Γ1)) (va : vw Γ1 ra = some da := by rfl) (hg : Gl X "isinstance" := by rfl) (hgT : Gl X "int" := by rfl)
    (he : starEach [a, .Name "int" p2] X.env = (false, eval a X.env) :: starEach [.Name "int" p2] X.env := by rfl) (he2 : starEach [.Name "int" p2] X.env = (false, eval (.Name "int" p2) X.env) :: starEach [] X.env := by rfl) (hpl : (backTo pos (starEach [.Name "int" p2] X.env)).any (·.1) = false := by rfl) :
    PE X (.Call (.Name "isinstance" p) [a, .Name "int" p2] [] pos) (tD X.K F Γ (.dat (.bool (isI da))) Γ1) := by
  have h := de_isi (p := p) (pos := pos) (p2 := p2) "int" (.inl rfl) ha B.isi B.int bt_int va hg hgT (by decide) (by decide) he he2 hpl
  rw [isi_int] at h
  exact h
theorem de_isiB (B : Bt X.mg) (ha : PE X a (tD X.K F Γ ra Γ1)) (va : vw Γ1 ra = some da := by rfl) (hg : Gl X "isinstance" := by rfl) (hgT : Gl X "bool" := by rfl)
    (he : starEach [a, .Name "bool" p2] X.env = (false, eval a X.env) :: starEach [.Name "bool" p2] X.env := by rfl) (he2 : starEach [.Name "bool" p2] X.env = (false, eval (.Name "bool" p2) X.env) :: starEach [] X.env := by rfl) (hpl : (backTo pos (starEach [.Name "bool" p2] X.env)).any (·.1) = false := by rfl) :
    PE X (.Call (.Name "isinstance" p) [a, .Name "bool" p2] [] pos) (tD X.K F Γ (.dat (.bool (isB da))) Γ1) := by
  have h := de_isi (p := p) (pos := pos) (p2 := p2) "bool" (.inr (.inl rfl)) ha B.isi B.bool bt_bool va hg hgT (by decide) (by decide) he he2 hpl
  rw [isi_bool] at h
  exact h
theorem de_isiS (B : Bt X.mg) (ha : PE X a (tD X.K F Γ ra Γ1)) (va : vw Γ1 ra = some da := by rfl) (hg : Gl X "isinstance" := by rfl) (hgT : Gl X "str" := by rfl)
    (he : starEach [a, .Name "str" p2] X.env = (false, eval a X.env) :: starEach [.Name "str" p2] X.env := by rfl) (he2 : starEach [.Name "str" p2] X.env = (false, eval (.Name "str" p2) X.env) :: starEach [] X.env := by rfl) (hpl : (backTo pos (starEach [.Name "str" p2] X.env)).any (·.1) = false := by rfl) :
    PE X (.Call (.Name "isinstance" p) [a, .Name "str" p2] [] pos) (tD X.K F Γ (.dat (.bool (isS da))) Γ1) := by
  have h := de_isi (p := p) (pos := pos) (p2 := p2) "str" (.inr (.inr (.inl rfl))) ha B.isi B.str bt_str va hg hgT (by decide) (by decide) he he2 hpl
  rw [isi_str] at h
  exact h
theorem de_isiL (B : Bt X.mg) (ha : PE X a (tD X.K F Γ ra Γ1)) (va : vw Γ1 ra = some da := by rfl) (hg : Gl X "isinstance" := by rfl) (hgT : Gl X "list" := by rfl)
    (he : starEach [a, .Name "list" p2] X.env = (false, eval a X.env) :: starEach [.Name "list" p2] X.env := by rfl) (he2 : starEach [.Name "list" p2] X.env = (false, eval (.Name "list" p2) X.env) :: starEach [] X.env := by rfl) (hpl : (backTo pos (starEach [.Name "list" p2] X.env)).any (·.1) = false := by rfl) :
    PE X (.Call (.Name "isinstance" p) [a, .Name "list" p2] [] pos) (tD X.K F Γ (.dat (.bool (isL da))) Γ1) := by
  have h := de_isi (p := p) (pos := pos) (p2 := p2) "list" (.inr (.inr (.inr (.inl rfl)))) ha B.isi B.list bt_list va hg hgT (by decide) (by decide) he he2 hpl
  rw [isi_list] at h
  exact h
theorem de_isiT (B : Bt X.mg) (ha : PE X a (tD X.K F Γ ra Γ1)) (va : vw Γ1 ra = some da := by rfl) (hg : Gl X "isinstance" := by rfl) (hgT : Gl X "tuple" := by rfl)
    (he : starEach [a, .Name "tuple" p2] X.env = (false, eval a X.env) :: starEach [.Name "tuple" p2] X.env := by rfl) (he2 : starEach [.Name "tuple" p2] X.env = (false, eval (.Name "tuple" p2) X.env) :: starEach [] X.env := by rfl) (hpl : (backTo pos (starEach [.Name "tuple" p2] X.env)).any (·.1) = false := by rfl) :
    PE X (.Call (.Name "isinstance" p) [a, .Name "tuple" p2] [] pos) (tD X.K F Γ (.dat (.bool (isT da))) Γ1) := by
  have h := de_isi (p := p) (pos := pos) (p2 := p2) "tuple" (.inr (.inr (.inr (.inr rfl)))) ha B.isi B.tuple bt_tuple va hg hgT (by decide) (by decide) he he2 hpl
  rw [isi_tuple] at h
  exact h
theorem ty_bool (B : Bt X.mg) : TyN X "bool" "bool" := ⟨.inr (.inl rfl), B.bool, bt_bool⟩
theorem ty_list (B : Bt X.mg) : TyN X "list" "list" := ⟨.inr (.inr (.inr (.inl rfl))), B.list, bt_list⟩
theorem ty_tuple (B : Bt X.mg) : TyN X "tuple" "tuple" := ⟨.inr (.inr (.inr (.inr rfl))), B.tuple, bt_tuple⟩
theorem isi_blt (d : PyData) : (["bool", "list", "tuple"].any fun T => isiD T d) = (isB d || isL d || isT d) := by
  simp only [List.any_cons, List.any_nil, isi_bool, isi_list, isi_tuple, Bool.or_false, Bool.or_assoc]
theorem de_as {r r' : Rv} (h : PE X e (tD X.K F Γ r Γ1)) (hr : r = r') : PE X e (tD X.K F Γ r' Γ1) := hr ▸ h
theorem dt_as {k k' : Bool} (h : PT X e (tDT X.K F Γ k Γ1)) (hr : k = k') : PT X e (tDT X.K F Γ k' Γ1) := hr ▸ h
theorem de_to {r : Rv} {Γ' : List Sl} (h : PE X e (tD X.K F Γ r Γ1)) (hr : Γ1 = Γ') : PE X e (tD X.K F Γ r Γ') := hr ▸ h
end
end AM
namespace AM
open PySem PySem.Spec PyProof.Rows L2
theorem mulL {i j : Int} (h : i.natAbs < 2 ^ 64) : IntMulOk i j := .of_left (intBits_le_iff.mpr h)
theorem mulR {i j : Int} (h : j.natAbs < 2 ^ 64) : IntMulOk i j := .of_right (intBits_le_iff.mpr h)
theorem mulB {i j : Int} (m n : Nat) (hi : i.natAbs < 2 ^ m) (hj : j.natAbs < 2 ^ n) (h : m + n ≤ 134217728) : IntMulOk i j := .of_le (intBits_le_iff.mpr hi) (intBits_le_iff.mpr hj) h
theorem divC (i : Int) {j : Int} (h0 : j ≠ 0) (n : Nat) (h : j.natAbs < 2 ^ n) (hn : n ≤ 9000) : CDivA i j := ⟨h0, Nat.lt_of_lt_of_le h (Nat.pow_le_pow_right (by decide) hn)⟩
section
variable {X : Cx} {F : Fx} {Γ Γ1 Γ2 : List Sl} {a b e elt iter : Expr} {pos p p2 : Pos} {scope : Scope} {ds : List PyData} {x : Str} {px : Pos}
theorem de_pw {i j : Int} (m : Int) (ha : PE X a (tD X.K F Γ (.dat (.int i)) Γ1)) (hb : PE X b (tD X.K F Γ1 (.dat (.int j)) Γ2)) (hc : CPow i j := by exact ⟨by decide, by decide, by decide⟩) (hm : i ^ j.toNat = m := by decide) : PE X (.BinOp a .Pow b pos) (tD X.K F Γ (.dat (.int m)) Γ2) := hm ▸ de_pow ha hb hc
end
def isWhole : PyData → Bool
  | .int _ => true
  | _ => false
theorem isWhole_eq (d : PyData) : (isI d && !isB d) = isWhole d := by cases d <;> rfl
theorem ints_of : ∀ {ds : List PyData}, ds.all isWhole = true → ∃ ns : List Int, ds = ns.map .int
  | [], _ => ⟨[], rfl⟩
  | d :: ds, h => by
    rw [List.all_cons, Bool.and_eq_true] at h
    obtain ⟨ns, rfl⟩ := ints_of h.2
    cases d with
    | int i => exact ⟨i :: ns, rfl⟩
    | _ => cases h.1
theorem all_ints (ns : List Int) : (ns.map PyData.int).all isWhole = true := by simp [List.all_map]; intro _ _; rfl
theorem shaped_ints (ns : List Int) : SeqAt.shaped (.tuple (ns.map .int)) = true := by
  have h1 : ∀ ns : List Int, PyData.canLayAll0 (ns.map .int) = true := by
    intro ns
    induction ns with
    | nil => rfl
    | cons n r ih => simp [PyData.canLayAll0, PyData.canLay0, ih]
  have h2 : ∀ ns : List Int, PyData.depthAll (ns.map .int) = 0 := by
    intro ns
    induction ns with
    | nil => rfl
    | cons n r ih => simp [PyData.depthAll, PyData.depth, ih]
  unfold SeqAt.shaped
  simp [PyData.canLay0, PyData.depth, h1, h2]
theorem shaped_intsL (ns : List Int) : SeqAt.shaped (.list (ns.map .int)) = true := by
  have h := shaped_ints ns
  unfold SeqAt.shaped at h ⊢
  simpa [PyData.canLay0, PyData.depth] using h
theorem eqv_nilT (ds : List PyData) : PyData.eqv (.tuple ds) (.tuple []) = ds.isEmpty := by cases ds <;> simp [PyData.eqv, PyData.eqvAll]
theorem eqv_nilL (ds : List PyData) : PyData.eqv (.list ds) (.list []) = ds.isEmpty := by cases ds <;> simp [PyData.eqv, PyData.eqvAll]
theorem eqvAll_ints : ∀ as bs : List Int, PyData.eqvAll (as.map .int) (bs.map .int) = decide (as = bs)
  | [], [] => by simp [PyData.eqvAll]
  | [], _ :: _ => by simp [PyData.eqvAll]
  | _ :: _, [] => by simp [PyData.eqvAll]
  | a :: as, b :: bs => by
    simp only [List.map_cons, PyData.eqvAll, PyData.eqv, eqvAll_ints as bs, List.cons.injEq, Bool.decide_and]
    first | rfl | (congr 1; simp [Bool.beq_eq_decide_eq])
theorem eqv_intsT (as bs : List Int) : PyData.eqv (.tuple (as.map .int)) (.tuple (bs.map .int)) = decide (as = bs) := by rw [← eqvAll_ints]; simp [PyData.eqv]
theorem eqv_intsL (as bs : List Int) : PyData.eqv (.list (as.map .int)) (.list (bs.map .int)) = decide (as = bs) := by rw [← eqvAll_ints]; simp [PyData.eqv]
end AM
namespace AM
open PySem PySem.Spec PyProof.Rows L2
section
variable {X : Cx} {F : Fx} {Γ Γ1 Γ2 : List Sl} {a b e elt iter tg c : Expr} {pos p p2 : Pos} {scope : Scope} {ds : List PyData} {own : List (Str × Nat)} {g : TG} {A : PyData → List Sl → List Sl → Prop}
theorem lr_mapT (f : PyData → PyData) (hi : PI X tg iter (tI X.K F Γ ds Γ1)) (T : Tgt X.K F g (own.map (·.2)) A) (hN : X.N.Nodup) (ok : BlkOk X.N X.env.scope scope own)
    (hg : ∀ (s : Shared) (H : Hp) (C : Addr) (cl : List (Str × Addr)) (fp : List Addr), PG (X.blk s H scope (compEnvC scope cl C X.env) fp) tg g) (hz : ds.length < 100000)
    (turn : ∀ d, d ∈ ds → ∃ Γt, A d (wpG Γ1 (own.map (·.2))) Γt ∧ wpG Γt (own.map (·.2)) = wpG Γ1 (own.map (·.2)) ∧ ∀ (s : Shared) (H : Hp) (C : Addr) (cl : List (Str × Addr)) (fp : List Addr), PE (X.blk s H scope (compEnvC scope cl C X.env) fp) elt (tD X.K F Γt (.dat (f d)) Γt))
    (hpf : (own.map (·.2)).all (pf F) = true := by rfl) :
    LcR X F Γ elt tg iter [] scope own (ds.map f) (wpG Γ1 (own.map (·.2))) := by
  refine lr_lc (own := own) (A := A) (fun j acc Γ => acc = (ds.take j).map f ∧ Γ = wpG Γ1 (own.map (·.2))) hi T hN ok hg ⟨by simp, rfl⟩ hz (fun j d acc Γ hd ⟨e1, e2⟩ => ?_) (fun acc Γ ⟨e1, e2⟩ => ⟨by rw [e1, List.take_length], e2⟩) hpf
  subst e1 e2
  obtain ⟨Γt, hA, hw, he⟩ := turn d (List.mem_of_getElem? hd)
  refine ⟨Γt, true, hA, fun _ _ _ _ _ => pts_no, fun h => (by cases h), fun _ => ⟨f d, Γt, he, ?_, hw⟩⟩
  rw [List.take_add_one, hd, List.map_append]; rfl
theorem lr_filT (q : PyData → Bool) (f : PyData → PyData) (hi : PI X tg iter (tI X.K F Γ ds Γ1)) (T : Tgt X.K F g (own.map (·.2)) A) (hN : X.N.Nodup) (ok : BlkOk X.N X.env.scope scope own)
    (hg : ∀ (s : Shared) (H : Hp) (C : Addr) (cl : List (Str × Addr)) (fp : List Addr), PG (X.blk s H scope (compEnvC scope cl C X.env) fp) tg g) (hz : ds.length < 100000)
    (turn : ∀ d, d ∈ ds → ∃ Γt, A d (wpG Γ1 (own.map (·.2))) Γt ∧ wpG Γt (own.map (·.2)) = wpG Γ1 (own.map (·.2)) ∧ (∀ (s : Shared) (H : Hp) (C : Addr) (cl : List (Str × Addr)) (fp : List Addr), PT (X.blk s H scope (compEnvC scope cl C X.env) fp) c (tDT X.K F Γt (q d) Γt)) ∧
      (q d = true → ∀ (s : Shared) (H : Hp) (C : Addr) (cl : List (Str × Addr)) (fp : List Addr), PE (X.blk s H scope (compEnvC scope cl C X.env) fp) elt (tD X.K F Γt (.dat (f d)) Γt)))
    (hpf : (own.map (·.2)).all (pf F) = true := by rfl) :
    LcR X F Γ elt tg iter [c] scope own ((ds.filter q).map f) (wpG Γ1 (own.map (·.2))) := by
  refine lr_lc (own := own) (A := A) (fun j acc Γ => acc = ((ds.take j).filter q).map f ∧ Γ = wpG Γ1 (own.map (·.2))) hi T hN ok hg ⟨by simp, rfl⟩ hz (fun j d acc Γ hd ⟨e1, e2⟩ => ?_) (fun acc Γ ⟨e1, e2⟩ => ⟨by rw [e1, List.take_length], e2⟩) hpf
  subst e1 e2
  obtain ⟨Γt, hA, hw, ht, he⟩ := turn d (List.mem_of_getElem? hd)
  refine ⟨Γt, q d, hA, fun s H C cl fp => pts_if (ht s H C cl fp), fun h => ⟨?_, hw⟩, fun h => ⟨f d, Γt, he h, ?_, hw⟩⟩
  · rw [List.take_add_one, hd, List.filter_append]
    simp [h]
  · rw [List.take_add_one, hd, List.filter_append, List.map_append]
    simp [h]
end
mutual
def sameD : PyData → PyData → Bool
  | .none, .none => true
  | .bool a, .bool b => decide (a = b)
  | .int a, .int b => decide (a = b)
  | .str a, .str b => decide (a = b)
  | .list as, .list bs => sameAll as bs
  | .tuple as, .tuple bs => sameAll as bs
  | _, _ => false
def sameAll : List PyData → List PyData → Bool
  | [], [] => true
  | a :: as, b :: bs => sameD a b && sameAll as bs
  | _, _ => false
end
def samePair : PyData → Bool
  | .tuple [x, y] => sameD x y
  | _ => false
theorem sameAll_eq : ∀ as bs : List PyData, sameAll as bs = (decide (as.length = bs.length) && ((zipD as bs).map samePair).all id)
  | [], [] => rfl
  | [], b :: bs => by simp [sameAll]
  | a :: as, [] => by simp [sameAll]
  | a :: as, b :: bs => by
    have ih := sameAll_eq as bs
    simp only [sameAll, ih, zipD, List.zipWith_cons_cons, List.map_cons, List.all_cons, List.length_cons, id, samePair]
    by_cases h : as.length = bs.length
    · simp [h]
    · simp [h]
def okS : Nat → PyData → Prop
  | 0, .list _ => False
  | 0, .tuple _ => False
  | n + 1, .list ds => ds.length < 100000 ∧ ∀ d ∈ ds, okS n d
  | n + 1, .tuple ds => ds.length < 100000 ∧ ∀ d ∈ ds, okS n d
  | _, _ => True
mutual
def noDict : PyData → Bool
  | .dict _ => false
  | .list ds => noDictA ds
  | .tuple ds => noDictA ds
  | _ => true
def noDictA : List PyData → Bool
  | [] => true
  | d :: ds => noDict d && noDictA ds
end
mutual
theorem sameD_refl : ∀ d : PyData, noDict d = true → sameD d d = true
  | .none, _ => rfl
  | .bool b, _ => by simp [sameD]
  | .int b, _ => by simp [sameD]
  | .str b, _ => by simp [sameD]
  | .list ds, h => by simp only [sameD]; exact sameAll_refl ds (by simpa [noDict] using h)
  | .tuple ds, h => by simp only [sameD]; exact sameAll_refl ds (by simpa [noDict] using h)
  | .dict _, h => by simp [noDict] at h
theorem sameAll_refl : ∀ ds : List PyData, noDictA ds = true → sameAll ds ds = true
  | [], _ => rfl
  | d :: ds, h => by
    simp only [noDictA, Bool.and_eq_true] at h
    simp only [sameAll, sameD_refl d h.1, sameAll_refl ds h.2, Bool.and_self]
end
def R_same (n : Nat) : List PyData → Res → Prop := fun ds r => ∃ a b, ds = [a, b] ∧ okS n a ∧ okS n b ∧ r = .ok (.bool (sameD a b))
theorem okS_mem {n : Nat} {ds : List PyData} (h : ∀ d ∈ ds, okS n d) {d : PyData} (m : d ∈ ds) : okS n d := h d m
theorem okS_ints (n : Nat) (ns : List Int) (h : ns.length < 100000) : okS (n + 1) (.tuple (ns.map .int)) := ⟨by rw [List.length_map]; exact h, fun d m => by
  obtain ⟨i, _, rfl⟩ := List.mem_map.mp m
  cases n <;> trivial⟩
theorem okS_intsL (n : Nat) (ns : List Int) (h : ns.length < 100000) : okS (n + 1) (.list (ns.map .int)) := ⟨by rw [List.length_map]; exact h, fun d m => by
  obtain ⟨i, _, rfl⟩ := List.mem_map.mp m
  cases n <;> trivial⟩
theorem okS_atom (n : Nat) (d : PyData) (h : isL d = false) (h2 : isT d = false) : okS n d := by
  cases d with
  | list _ => cases h
  | tuple _ => cases h2
  | _ => cases n <;> trivial
theorem zipD_mem {as bs : List PyData} {d : PyData} (h : d ∈ zipD as bs) : ∃ x y, d = .tuple [x, y] ∧ x ∈ as ∧ y ∈ bs := by
  induction as generalizing bs with
  | nil => cases h
  | cons a as ih =>
    cases bs with
    | nil => cases h
    | cons b bs =>
      rcases List.mem_cons.mp h with rfl | h
      · exact ⟨a, b, rfl, List.mem_cons_self, List.mem_cons_self⟩
      · obtain ⟨x, y, e, h1, h2⟩ := ih h
        exact ⟨x, y, e, List.mem_cons_of_mem _ h1, List.mem_cons_of_mem _ h2⟩
end AM
namespace AM
open PySem PySem.Spec PyProof.Rows L2
def lastOk (ns : List Int) : Bool := ns.isEmpty || !decide (ns.getLast?.getD 0 = 0)
def intsD : List PyData → List Int
  | [] => []
  | .int i :: r => i :: intsD r
  | _ :: r => intsD r
theorem intsD_map (ns : List Int) : intsD (ns.map .int) = ns := by
  induction ns with
  | nil => rfl
  | cons n r ih => show n :: intsD (r.map .int) = n :: r; rw [ih]
def isPolyD : PyData → Bool
  | .tuple es => decide (es.length ≤ 13) && es.all isWhole && lastOk (intsD es)
  | _ => false
theorem isPolyD_ints (ns : List Int) : isPolyD (.tuple (ns.map .int)) = (decide (ns.length ≤ 13) && lastOk ns) := by
  simp only [isPolyD, List.length_map, all_ints, intsD_map, Bool.and_true]
theorem isPolyD_bad {es : List PyData} (h : ((!isT (.tuple es)) || (decide ((12 + 1 : Int) < (es.length : Int)) || !((es.map isWhole).all id))) = true) : isPolyD (.tuple es) = false := by
  have h' : decide ((12 + 1 : Int) < (es.length : Int)) = true ∨ (es.map isWhole).all id = false := by simpa [isT] using h
  rcases h' with h | h
  · have : ¬ es.length ≤ 13 := by have := of_decide_eq_true h; omega
    simp [isPolyD, this]
  · have : es.all isWhole = false := by rw [← h, List.all_map]; rfl
    simp [isPolyD, this]
theorem isPolyD_good {es : List PyData} (h : ((!isT (.tuple es)) || (decide ((12 + 1 : Int) < (es.length : Int)) || !((es.map isWhole).all id))) = false) : ∃ ns : List Int, es = ns.map .int ∧ ns.length ≤ 13 := by
  rw [Bool.or_eq_false_iff, Bool.or_eq_false_iff] at h
  obtain ⟨_, h1, h2⟩ := h
  have h3 : es.all isWhole = true := by
    have : (es.map isWhole).all id = true := by simpa using h2
    rw [List.all_map] at this
    exact this
  obtain ⟨ns, rfl⟩ := ints_of h3
  refine ⟨ns, rfl, ?_⟩
  have := of_decide_eq_false h1
  rw [List.length_map] at this
  omega
theorem last_atI {ns : List Int} {n : Int} (h : ns.getLast? = some n) : atI (ns.map PyData.int) (-1) = some (.int n) := by
  have hne : ns ≠ [] := by rintro rfl; cases h
  have e : ns = ns.dropLast ++ [n] := by
    have h2 := List.dropLast_concat_getLast hne
    rw [List.getLast?_eq_getLast hne] at h
    cases h
    exact h2.symm
  rw [e, List.map_append]
  exact atI_last _ _
end AM
namespace AM
open PySem PySem.Spec PyProof.Rows L2
theorem ds_skip {X : Cx} {F : Fx} {W : WX} {Γ : List Sl} {P : Out → Prop} {rest : List Stmt} (h : PSs X rest (tS X.K F W Γ P)) : PSs X [] (tS X.K F W Γ (thn' X F W rest P)) := ds_nil h
theorem cx_no {P : Program} {w : World} {o : List PySem.Env} {H : Hp} {s s' : Shared} {e : Value} (h : L2.CX P w o H s (fun _ _ _ => False) e s') : False := by
  obtain ⟨_, _, _, _, _, _, _, _, _, _, _, _, z⟩ := h
  exact z
end AM
namespace AM
open PySem PySem.Spec PyProof.Rows L2
theorem de_nilT {X : Cx} {F : Fx} {Γ : List Sl} {x1} {pos : Pos} : PE X (.Tuple [] x1 pos) (tD X.K F Γ (.dat (.tuple [])) Γ) := de_tup (ds := []) da_nil (by decide)
theorem dn_nilL {X : Cx} {F : Fx} {Γ : List Sl} {pos : Pos} : PE X (.List [] pos) (tN X.K F Γ [] Γ) := dn_lst (ds := []) da_nil (by decide)
theorem shaped_nilT : SeqAt.shaped (.tuple []) = true := shaped_ints []
theorem shaped_nilL : SeqAt.shaped (.list []) = true := shaped_intsL []
end AM
namespace AM
open PySem PySem.Spec PyProof.Rows L2
def wellB (c t : Int) : Bag := if 1000000000000000000 ≤ c then ⟨c - 1000000000000000000, c.fmod P61, t⟩ else ⟨0, c.fmod P61, t⟩
def R_well : List PyData → Res → Prop := fun ds r => ∃ c t : Int, ds = [.int c, .int t] ∧ r = .ok (.list (bagD (wellB c t)))
theorem wellB_ok {c t : Int} (h0 : 0 ≤ t) (h1 : t ≤ 100000) : BagOk 100000 (wellB c t) := by
  have r := fmod_rng c (m := P61) (by decide)
  unfold wellB
  split
  · exact ⟨r.1, r.2, h0, h1⟩
  · exact ⟨r.1, r.2, h0, h1⟩
theorem well_imp {K : PySem.W.Frag} (vs : List V) (H : Hp) (Q : VK) (E : XK) (h : spWell K vs H Q E) : spP K R_well vs H Q E := by
  obtain ⟨c, t, rfl, h0, h1, q⟩ := h
  refine ⟨fun _ => none, [.int c, .int t], _, fun a o h => (by cases h), fun a o h => (by cases h), .cons (.int _) (.cons (.int _) .nil), ⟨c, t, rfl, rfl⟩, fun v H' G' g hv => ?_⟩
  obtain ⟨p, vs, rfl, hp, ha⟩ := dp_lst hv
  have e : vs = bagV (wellB c t) := by
    have : bagD (wellB c t) = [(wellB c t).x, (wellB c t).y, (wellB c t).z].map .int := rfl
    rw [this] at ha
    rw [dpa_ints ha]; rfl
  subst e
  have hn : H p = none := by
    rcases g.f p _ hp with ⟨o, z⟩ | z
    · cases z
    · exact z
  exact q p H' (wellB c t) g.h hn (g.le _ _ hp) (wellB_ok h0 h1)
def R_take : List PyData → List PyData → PyData → List PyData → Prop := fun xs ds d xs' => ∃ (b : Bag) (m n : Int), BagOk n b ∧ n ≤ 1000000000 ∧ 0 < m ∧ m < 2 ^ 63 ∧ xs = bagD b ∧ ds = [.int m] ∧ d = .int (take b m).1 ∧ xs' = bagD (take b m).2
theorem rtk {b : Bag} {n : Int} (m : Int) (ok : BagOk n b) (hn : n ≤ 1000000000) (h0 : 0 < m := by decide) (h1 : m < 2 ^ 63 := by decide) : R_take (bagD b) [.int m] (.int (take b m).1) (bagD (take b m).2) := ⟨b, m, n, ok, hn, h0, h1, rfl, rfl, rfl, rfl⟩
def RB (M : Int) (f : Bag → Int × Bag) : List PyData → List PyData → PyData → List PyData → Prop := fun xs ds d xs' => ∃ (b : Bag) (n : Int), BagOk n b ∧ n ≤ M ∧ xs = bagD b ∧ ds = [] ∧ d = .int (f b).1 ∧ xs' = bagD (f b).2
def RBd (M : Int) (f : Bag → PyData × Bag) : List PyData → List PyData → PyData → List PyData → Prop := fun xs ds d xs' => ∃ (b : Bag) (n : Int), BagOk n b ∧ n ≤ M ∧ xs = bagD b ∧ ds = [] ∧ d = (f b).1 ∧ xs' = bagD (f b).2
theorem rb {M : Int} {f : Bag → Int × Bag} {b : Bag} {n : Int} (ok : BagOk n b) (hn : n ≤ M) : RB M f (bagD b) [] (.int (f b).1) (bagD (f b).2) := ⟨b, n, ok, hn, rfl, rfl, rfl, rfl⟩
theorem rbd {M : Int} {f : Bag → PyData × Bag} {b : Bag} {n : Int} (ok : BagOk n b) (hn : n ≤ M) : RBd M f (bagD b) [] (f b).1 (bagD (f b).2) := ⟨b, n, ok, hn, rfl, rfl, rfl, rfl⟩
def lawInt (b : Bag) : Int × Bag :=
  if (take b 8).1 < 5 then ((take (take b 8).2 13).1 - 6, (take (take b 8).2 13).2)
  else if (take b 8).1 < 7 then ((take (take b 8).2 201).1 - 100, (take (take b 8).2 201).2)
  else ((take (take b 8).2 2000001).1 - 1000000, (take (take b 8).2 2000001).2)
def wideTab : List Int := [0, 1, -1, 1000000000000000, 0 - 1000000000000000]
def lawWide (b : Bag) : Int × Bag :=
  if (take b 4).1 < 2 then lawInt (take b 4).2
  else if (take b 4).1 = 2 then ((take (take b 4).2 2000000000000001).1 - 1000000000000000, (take (take b 4).2 2000000000000001).2)
  else (wideTab.getD (take (take b 4).2 5).1.toNat 0, (take (take b 4).2 5).2)
def oddTab : List PyData := [.none, .bool true, .bool false, .str "", .str "1", .tuple [], .list [], .tuple [.int 1], .list [.int 1, .int 1], .tuple [.int 1, .int 1], .tuple [.none, .int 1]]
def lawOdd (b : Bag) : PyData × Bag := (oddTab.getD (take b 11).1.toNat .none, (take b 11).2)
theorem tabd_at {ds : List PyData} {i : Int} (h0 : 0 ≤ i) (h1 : i < (ds.length : Int)) : atI ds i = some (ds.getD i.toNat .none) := by
  have hl : i.toNat < ds.length := by omega
  have h : ds[i.toNat]? = some (ds.getD i.toNat .none) := by rw [List.getD_eq_getElem?_getD, List.getElem?_eq_getElem hl]; rfl
  have h2 := atI_nat h
  rw [show ((i.toNat : Nat) : Int) = i by omega] at h2
  exact h2
theorem tab_at {ns : List Int} {i : Int} (h0 : 0 ≤ i) (h1 : i < (ns.length : Int)) : atI (ns.map PyData.int) i = some (.int (ns.getD i.toNat 0)) := by
  have hl : i.toNat < ns.length := by omega
  have h : (ns.map PyData.int)[i.toNat]? = some (.int (ns.getD i.toNat 0)) := by rw [List.getElem?_map, List.getD_eq_getElem?_getD, List.getElem?_eq_getElem hl]; rfl
  have h2 := atI_nat h
  rw [show ((i.toNat : Nat) : Int) = i by omega] at h2
  exact h2
theorem lawInt_ok {n : Int} {b : Bag} (h : BagOk n b) : BagOk (n + 2) (lawInt b).2 := by
  have h1 := take_ok h 8
  unfold lawInt
  split
  · exact (take_ok h1 13).mono (by omega)
  · split
    · exact (take_ok h1 201).mono (by omega)
    · exact (take_ok h1 2000001).mono (by omega)
theorem lawInt_rng (b : Bag) : -1000000 ≤ (lawInt b).1 ∧ (lawInt b).1 ≤ 1000000 := by
  unfold lawInt
  split
  · have := take_rng (take b 8).2 (m := 13) (by decide); constructor <;> (show _ ≤ _; simp only []; omega)
  · split
    · have := take_rng (take b 8).2 (m := 201) (by decide); constructor <;> (show _ ≤ _; simp only []; omega)
    · have := take_rng (take b 8).2 (m := 2000001) (by decide); constructor <;> (show _ ≤ _; simp only []; omega)
theorem lawWide_ok {n : Int} {b : Bag} (h : BagOk n b) : BagOk (n + 3) (lawWide b).2 := by
  have h1 := take_ok h 4
  unfold lawWide
  split
  · exact (lawInt_ok h1).mono (by omega)
  · split
    · exact (take_ok h1 2000000000000001).mono (by omega)
    · exact (take_ok h1 5).mono (by omega)
theorem lawWide_rng (b : Bag) : -1000000000000000 ≤ (lawWide b).1 ∧ (lawWide b).1 ≤ 1000000000000000 := by
  unfold lawWide
  split
  · have := lawInt_rng (take b 4).2; omega
  · split
    · have := take_rng (take b 4).2 (m := 2000000000000001) (by decide); constructor <;> (show _ ≤ _; simp only []; omega)
    · have := take_rng (take b 4).2 (m := 5) (by decide)
      have key : ∀ i : Nat, i < 5 → -1000000000000000 ≤ wideTab.getD i 0 ∧ wideTab.getD i 0 ≤ 1000000000000000 := by decide
      exact key _ (by omega)
theorem lawOdd_ok {n : Int} {b : Bag} (h : BagOk n b) : BagOk (n + 1) (lawOdd b).2 := take_ok h 11
theorem lawOdd_mem (b : Bag) : (lawOdd b).1 ∈ oddTab := by
  have r := take_rng b (m := 11) (by decide)
  have hl : (take b 11).1.toNat < oddTab.length := by show _ < 11; omega
  show oddTab.getD (take b 11).1.toNat .none ∈ oddTab
  rw [List.getD_eq_getElem?_getD, List.getElem?_eq_getElem hl]
  exact List.getElem_mem hl
end AM
namespace AM
open PySem PySem.Spec PyProof.Rows L2
theorem rd_eqB {K : PySem.W.Frag} {F : Fx} {Γ : List Sl} {i j : Bool} : RD2 K F Γ rEq (.dat (.bool i)) (.dat (.bool j)) (.dat (.bool (decide (i = j)))) := fun G H σ x y Q E vx vy k => by
  have e1 := dp_bl vx
  have e2 := dp_bl vy
  subst e1; subst e2
  refine ⟨rfl, k _ H G Step.refl E ?_⟩
  rw [dec_bl, Bool.beq_eq_decide_eq]
  exact .bl _
end AM
namespace AM
open PySem PySem.Spec PyProof.Rows L2
theorem dec_cast (m n : Nat) : decide ((m : Int) = (n : Int)) = decide (m = n) := decide_eq_decide.mpr (by omega)
def bagsW (H1 : Hp) (us : List V) (l D : Addr) (i : Nat) (H : Hp) : Prop := Same H1 H ∧ H l = some (.lst us) ∧ ∃ bs : List Addr, H D = some (.lst (bs.map V.ref)) ∧ bs.Nodup ∧ D ∉ bs ∧ bs.length = i ∧ ∀ b ∈ bs, ∃ B : Bag, BagOk 100000 B ∧ H b = some (.lst (bagV B))
theorem bags_lc {K : PySem.W.Frag} {σ : L2.St} {H1 : Hp} {l D : Addr} {us : List V} {vs : List Nat} {te : TE} {Q : VK} (ik ic : Nat) (hvs : vs = [ik, ic]) (hne : ik ≠ ic) (hk : ik < σ.length) (hc : ic < σ.length) (hl : H1 l = some (.lst us)) (hD : H1 D = none) (hus : us.length ≤ 64) (hint : ∀ u ∈ us, ∃ i, u = V.int i)
    (hte : ∀ (i : Nat) (c : Int) (σ2 : L2.St) (H : Hp) (Q : VK), i < 64 → σ2[ik]? = some (some (.int (i : Int))) → σ2[ic]? = some (some (.int c)) → (∀ p H' B, Same H H' → H p = none → H' p = some (.lst (bagV B)) → BagOk 100000 B → Q (.ref p) H') → te σ2 H Q)
    (q : ∀ (bs : List Addr) (H' : Hp), Same H1 H' → H' D = some (.lst (bs.map V.ref)) → bs.Nodup → D ∉ bs → (∀ b ∈ bs, ∃ B : Bag, BagOk 100000 B ∧ H' b = some (.lst (bagV B))) → Q (.ref D) H') :
    ∃ W : Nat → Nat → Hp → Prop, (∃ m, W 0 m (upd H1 D (.lst []))) ∧ ∀ i m H, W i m H →
      ((Ite K l).stop i H ∧ Q (.ref D) H) ∨ ((Ite K l).go i H ∧ ∃ Nx : Hp → Prop, (∀ H', Nx H' → ∃ m', m' < m ∧ W (i + 1) m' H') ∧ ∀ x H', (Ite K l).yld i H x H' → gTup K 2 (gCons (gName ik) (gCons (gName ic) gNil)) x (wipe σ vs) H' fun σ2 H2 => wipe σ2 vs = wipe σ vs ∧ tYes σ2 H2 fun b H3 =>
        if b = true then te σ2 H3 fun y H4 => ∃ acc, H4 D = some (.lst acc) ∧ acc.length < sizeLine ∧ Nx (upd H4 D (.lst (acc ++ [y]))) else Nx H3) := by
  have nDl : l ≠ D := ne_of_none hl hD
  refine ⟨fun i m H => m = us.length - i ∧ i ≤ us.length ∧ bagsW H1 us l D i H, ⟨us.length, by simp, Nat.zero_le _, same_upd hD, (by rw [upd_ne nDl]; exact hl), [], upd_same, List.nodup_nil, (by simp), rfl, (by simp)⟩, ?_⟩
  rintro i m H ⟨rfl, hle, sm, hL, bs, hB, nd, nD, len, ok⟩
  by_cases hlt : i < us.length
  · refine .inr ⟨⟨us, us[i], .inl (.inl hL), List.getElem?_eq_getElem hlt⟩, fun H' => i + 1 ≤ us.length ∧ bagsW H1 us l D (i + 1) H', fun H' h => ⟨us.length - (i + 1), by omega, rfl, h⟩, fun x H' ⟨T, x1, ex, hT, eH, f1⟩ => ?_⟩
    subst ex eH
    have e1 : x1 = us[i] := Option.some.inj ((f1 us (.inl (.inl hL))).symm.trans (List.getElem?_eq_getElem hlt))
    obtain ⟨c, hcI⟩ := hint _ (List.getElem_mem hlt)
    rw [hcI] at e1
    subst e1
    refine ⟨T, _, rfl, .inl (.inl upd_same), rfl, _, _, rfl, _, _, rfl, rfl, ?_⟩
    have lw : (wipe σ vs).length = σ.length := wipe_length σ vs
    refine ⟨wipe_same (by rw [List.length_set, List.length_set, lw]) fun j hj => ?_, ?_⟩
    · rw [hvs] at hj
      rw [List.getElem?_set_ne (fun z => hj (by simp [z])), List.getElem?_set_ne (fun z => hj (by simp [z])), wipe_out (by rw [hvs]; exact hj)]
    · refine hte i c _ _ _ (by omega) ?_ ?_ fun p H4 B s4 np hp okB => ?_
      · rw [List.getElem?_set_ne (Ne.symm hne), List.getElem?_set_self (by rw [lw]; exact hk)]
      · rw [List.getElem?_set_self (by rw [List.length_set, lw]; exact hc)]
      · have hD2 : (upd H T (.tup [V.int (i : Nat), V.int c])) D = some (.lst (bs.map V.ref)) := by rw [upd_ne (ne_of_none hB hT)]; exact hB
        have hD4 := s4 _ _ hD2
        have npD : p ≠ D := fun z => by rw [z, hD2] at np; cases np
        have nb : ∀ b ∈ bs, b ≠ p ∧ b ≠ D ∧ ∃ B : Bag, BagOk 100000 B ∧ H4 b = some (.lst (bagV B)) := fun b hb => by
          obtain ⟨B', ok', h'⟩ := ok b hb
          have h2 : (upd H T (.tup [V.int (i : Nat), V.int c])) b = some (.lst (bagV B')) := by rw [upd_ne (ne_of_none h' hT)]; exact h'
          exact ⟨fun z => (by rw [z, np] at h2; cases h2), fun z => nD (by rw [← z]; exact hb), B', ok', s4 _ _ h2⟩
        have hl2 : (upd H T (.tup [V.int (i : Nat), V.int c])) l = some (.lst us) := by rw [upd_ne (ne_of_none hL hT)]; exact hL
        refine ⟨_, hD4, by rw [List.length_map, len]; exact Nat.lt_of_lt_of_le (show i < 64 by omega) (by decide), hlt, fun a o h => by rw [upd_ne (ne_of_none h hD)]; exact s4 _ _ (by rw [upd_ne (ne_of_none (sm a o h) hT)]; exact sm a o h), by rw [upd_ne nDl]; exact s4 _ _ hl2, bs ++ [p], by rw [upd_same, List.map_append]; rfl, ?_, ?_, by rw [List.length_append, len]; rfl, fun b hb => ?_⟩
        · rw [List.nodup_append]
          refine ⟨nd, by simp, fun a ha b hb => ?_⟩
          rw [List.mem_singleton] at hb
          subst hb
          exact (nb a ha).1
        · rw [List.mem_append, List.mem_singleton]
          rintro (z | z)
          · exact nD z
          · exact npD z.symm
        · rcases List.mem_append.mp hb with hb | hb
          · obtain ⟨_, n2, B', ok', h'⟩ := nb b hb
            exact ⟨B', ok', by rw [upd_ne n2]; exact h'⟩
          · rw [List.mem_singleton] at hb
            subst hb
            exact ⟨B, okB, by rw [upd_ne npD]; exact hp⟩
  · have e : i = us.length := by omega
    subst e
    exact .inl ⟨⟨us, .inl (.inl hL), Nat.le_refl _⟩, q bs H sm hB nd nD ok⟩
theorem cut_le {us : List V} (m : Int) : (cutV us none (some m)).length ≤ us.length := by
  unfold cutV
  rw [List.length_take, List.length_drop]
  omega
theorem cut_mem {us : List V} {m : Int} {u : V} (h : u ∈ cutV us none (some m)) : u ∈ us := by
  unfold cutV at h
  exact List.mem_of_mem_drop (List.mem_of_mem_take h)
end AM

set_option Elab.async false
set_option linter.all false
set_option maxRecDepth 100000
set_option maxHeartbeats 2000000
namespace AM
open PySem PySem.Spec PyProof.Rows L2
section
variable {X : Cx} {F : Fx} {W : WX} {P : Out → Prop} {Γ Γ1 Γ2 : List Sl} {a b c e : Expr} {es : List Expr} {pos p p2 : Pos} {k : Nat} {rest : List Stmt}
theorem dw_andF {rs : List Expr} (h : PT X a (tDT X.K F Γ false Γ1)) : PW X (.BoolOp .And (a :: b :: rs) pos) (tDT X.K F Γ false Γ1) := by
  refine ⟨fun wh pins s σ H Q I h' => ?_⟩
  refine PyProof.Rows.isTrue_and (thn (h.run pins s σ H (fun c H1 => c = false ∧ Q false H1) I ?_) fun c s1 ⟨H1, I1, q1, q2⟩ => ?_)
  · obtain ⟨G, E, q⟩ := h'
    exact ⟨G, E, fun H1 G1 s1 E1 => ⟨rfl, q H1 G1 s1 E1⟩⟩
  · subst q1
    exact ⟨H1, I1, q2⟩
theorem dw_andT {l : Bool} {rs : List Expr} (h : PT X a (tDT X.K F Γ true Γ1)) (h2 : PW X (.BoolOp .And (b :: rs) pos) (tDT X.K F Γ1 l Γ2)) : PW X (.BoolOp .And (a :: b :: rs) pos) (tDT X.K F Γ l Γ2) :=
  pw_imp (pw_and h h2) fun σ H Q ⟨G, E, q⟩ => ⟨G, E, fun H1 G1 s1 E1 => ⟨G1, E1, fun H2 G2 s2 E2 => q H2 G2 (s1.trans s2) E2⟩⟩
theorem dw_orT {rs : List Expr} (h : PT X a (tDT X.K F Γ true Γ1)) : PW X (.BoolOp .Or (a :: b :: rs) pos) (tDT X.K F Γ true Γ1) := by
  refine ⟨fun wh pins s σ H Q I h' => ?_⟩
  refine PyProof.Rows.isTrue_or (thn (h.run pins s σ H (fun c H1 => c = true ∧ Q true H1) I ?_) fun c s1 ⟨H1, I1, q1, q2⟩ => ?_)
  · obtain ⟨G, E, q⟩ := h'
    exact ⟨G, E, fun H1 G1 s1 E1 => ⟨rfl, q H1 G1 s1 E1⟩⟩
  · subst q1
    exact ⟨H1, I1, q2⟩
theorem dw_orF {l : Bool} {rs : List Expr} (h : PT X a (tDT X.K F Γ false Γ1)) (h2 : PW X (.BoolOp .Or (b :: rs) pos) (tDT X.K F Γ1 l Γ2)) : PW X (.BoolOp .Or (a :: b :: rs) pos) (tDT X.K F Γ l Γ2) :=
  pw_imp (pw_or h h2) fun σ H Q ⟨G, E, q⟩ => ⟨G, E, fun H1 G1 s1 E1 => ⟨G1, E1, fun H2 G2 s2 E2 => q H2 G2 (s1.trans s2) E2⟩⟩
theorem ds_cut {s : Stmt} (J : List Sl → Prop) (t : ∀ Γ, J Γ → PSs X rest (tS X.K F W Γ P)) (h : (∀ Γ, J Γ → PSs X rest (tS X.K F W Γ P)) → PSs X (s :: rest) (tS X.K F W Γ P)) : PSs X (s :: rest) (tS X.K F W Γ P) := h t
theorem ds_to {s : List Stmt} {Γ' : List Sl} (h : PSs X s (tS X.K F W Γ P)) (e : Γ = Γ') : PSs X s (tS X.K F W Γ' P) := e ▸ h
theorem rd_repT {K : PySem.W.Frag} {as : List PyData} {m : Int} (hne : as ≠ []) (h1 : 2 ≤ m) (h2 : m ≤ 1000) (hz : as.length ≤ 1000) : RD2 K F Γ (rRepT K) (.dat (.tuple as)) (.dat (.int m)) (.dat (.tuple (List.replicate m.toNat as).flatten)) := fun G H σ x y Q E vx vy k => by
  obtain ⟨p1, v1, rfl, q1, a1⟩ := dp_tup vx
  refine ⟨p1, m, v1, rfl, dp_int vy, sqT_mono E.le q1, fun e => hne ((dpa_nil_iff a1).mp e), h1, h2, by rw [dpa_len a1]; exact hz, fun l hl' => ?_⟩
  have g := (E.no hl').2.2
  exact k _ _ _ (Step.newDat hl' g) (E.newDat hl') (.tup (SqT.of upd_same) (dpa_mono (same_upd g) _ _ (dpa_flat a1 _)))
theorem de_repT {as : List PyData} {m : Int} (ha : PE X a (tD X.K F Γ (.dat (.tuple as)) Γ1)) (hb : PE X b (tD X.K F Γ1 (.dat (.int m)) Γ2)) (hne : as ≠ []) (h1 : 2 ≤ m) (h2 : m ≤ 1000) (hz : as.length ≤ 1000) : PE X (.BinOp a .Mult b pos) (tD X.K F Γ (.dat (.tuple (List.replicate m.toNat as).flatten)) Γ2) := de_op op_repT (rd_repT hne h1 h2 hz) ha hb
end
def pl : Nat → PyData → Prop
  | _, .none => True
  | _, .bool _ => True
  | _, .int _ => True
  | _, .str s => PyData.canLay0 (.str s) = true
  | n + 1, .list ds => ds.length < 100000 ∧ ∀ d ∈ ds, pl n d
  | n + 1, .tuple ds => ds.length < 100000 ∧ ∀ d ∈ ds, pl n d
  | _, _ => False
theorem pl_list {n : Nat} {ds : List PyData} : pl (n + 1) (.list ds) ↔ ds.length < 100000 ∧ ∀ d ∈ ds, pl n d := Iff.rfl
theorem pl_tuple {n : Nat} {ds : List PyData} : pl (n + 1) (.tuple ds) ↔ ds.length < 100000 ∧ ∀ d ∈ ds, pl n d := Iff.rfl
theorem pl_up : ∀ {n : Nat} {d : PyData}, pl n d → pl (n + 1) d
  | _, .none, _ => trivial
  | _, .bool _, _ => trivial
  | _, .int _, _ => trivial
  | 0, .str _, h => h
  | _ + 1, .str _, h => h
  | 0, .list _, h => h.elim
  | 0, .tuple _, h => h.elim
  | 0, .dict _, h => h.elim
  | _ + 1, .dict _, h => h.elim
  | n + 1, .list ds, h => ⟨h.1, fun d m => pl_up (h.2 d m)⟩
  | n + 1, .tuple ds, h => ⟨h.1, fun d m => pl_up (h.2 d m)⟩
theorem pl_okS : ∀ {n : Nat} {d : PyData}, pl n d → okS n d
  | 0, .none, _ => trivial
  | 0, .bool _, _ => trivial
  | 0, .int _, _ => trivial
  | 0, .str _, _ => trivial
  | _ + 1, .none, _ => trivial
  | _ + 1, .bool _, _ => trivial
  | _ + 1, .int _, _ => trivial
  | _ + 1, .str _, _ => trivial
  | 0, .list _, h => h.elim
  | 0, .tuple _, h => h.elim
  | 0, .dict _, h => h.elim
  | _ + 1, .dict _, h => h.elim
  | n + 1, .list ds, h => ⟨h.1, fun d m => pl_okS (h.2 d m)⟩
  | n + 1, .tuple ds, h => ⟨h.1, fun d m => pl_okS (h.2 d m)⟩
theorem noDictA_of {ds : List PyData} (h : ∀ d ∈ ds, noDict d = true) : noDictA ds = true := by
  induction ds with
  | nil => rfl
  | cons d r ih => unfold noDictA; rw [h d (List.mem_cons_self ..), ih fun d m => h d (List.mem_cons_of_mem _ m)]; rfl
theorem pl_noDict : ∀ {n : Nat} {d : PyData}, pl n d → noDict d = true
  | _, .none, _ => rfl
  | _, .bool _, _ => rfl
  | _, .int _, _ => rfl
  | _, .str _, _ => rfl
  | 0, .list _, h => h.elim
  | 0, .tuple _, h => h.elim
  | 0, .dict _, h => h.elim
  | _ + 1, .dict _, h => h.elim
  | n + 1, .list ds, h => by unfold noDict; exact noDictA_of fun d m => pl_noDict (h.2 d m)
  | n + 1, .tuple ds, h => by unfold noDict; exact noDictA_of fun d m => pl_noDict (h.2 d m)
theorem lay_of {ds : List PyData} {n : Nat} (h : ∀ d ∈ ds, d.canLay0 = true ∧ d.depth ≤ n) : PyData.canLayAll0 ds = true ∧ PyData.depthAll ds ≤ n := by
  induction ds with
  | nil => exact ⟨rfl, Nat.zero_le _⟩
  | cons d r ih =>
    have h1 := h d (List.mem_cons_self ..)
    have h2 := ih fun d m => h d (List.mem_cons_of_mem _ m)
    refine ⟨?_, ?_⟩
    · simp [PyData.canLayAll0, h1.1, h2.1]
    · simp only [PyData.depthAll]; exact Nat.max_le.mpr ⟨h1.2, h2.2⟩
theorem pl_lay : ∀ {n : Nat} {d : PyData}, pl n d → d.canLay0 = true ∧ d.depth ≤ n
  | _, .none, _ => ⟨rfl, Nat.zero_le _⟩
  | _, .bool _, _ => ⟨rfl, Nat.zero_le _⟩
  | _, .int _, _ => ⟨rfl, Nat.zero_le _⟩
  | 0, .str _, h => ⟨h, Nat.zero_le _⟩
  | _ + 1, .str _, h => ⟨h, Nat.zero_le _⟩
  | 0, .list _, h => h.elim
  | 0, .tuple _, h => h.elim
  | 0, .dict _, h => h.elim
  | _ + 1, .dict _, h => h.elim
  | n + 1, .list ds, h => by
    have := lay_of fun d m => pl_lay (h.2 d m)
    exact ⟨by simp only [PyData.canLay0]; exact this.1, by simp only [PyData.depth]; omega⟩
  | n + 1, .tuple ds, h => by
    have := lay_of fun d m => pl_lay (h.2 d m)
    exact ⟨by simp only [PyData.canLay0]; exact this.1, by simp only [PyData.depth]; omega⟩
theorem pl_shaped {n : Nat} {d : PyData} (h : pl n d) (hn : n ≤ 64 := by decide) : SeqAt.shaped d = true := by
  have := pl_lay h
  unfold SeqAt.shaped
  rw [this.1, decide_eq_true (show d.depth ≤ 64 by omega)]; rfl
theorem pl_int (n : Nat) (i : Int) : pl n (.int i) := by cases n <;> trivial
theorem pl_ints (n : Nat) {ns : List Int} (h : ns.length < 100000) : pl (n + 1) (.tuple (ns.map .int)) := ⟨by rw [List.length_map]; exact h, fun d m => by obtain ⟨i, _, rfl⟩ := List.mem_map.mp m; exact pl_int _ _⟩
theorem pl_intsL (n : Nat) {ns : List Int} (h : ns.length < 100000) : pl (n + 1) (.list (ns.map .int)) := pl_ints n h
theorem oddTab_pl {d : PyData} (h : d ∈ oddTab) : pl 1 d := by
  simp only [oddTab, List.mem_cons, List.not_mem_nil, or_false] at h
  rcases h with rfl | rfl | rfl | rfl | rfl | rfl | rfl | rfl | rfl | rfl | rfl
  · trivial
  · trivial
  · trivial
  · exact (by decide +kernel : PyData.canLay0 (.str "") = true)
  · exact (by decide +kernel : PyData.canLay0 (.str "1") = true)
  · exact ⟨by decide, fun _ m => by cases m⟩
  · exact ⟨by decide, fun _ m => by cases m⟩
  · exact pl_ints 0 (ns := [1]) (by decide)
  · exact pl_ints 0 (ns := [1, 1]) (by decide)
  · exact pl_ints 0 (ns := [1, 1]) (by decide)
  · exact ⟨by decide, fun d m => by
      simp only [List.mem_cons, List.not_mem_nil, or_false] at m
      rcases m with rfl | rfl <;> trivial⟩
section
variable {X : Cx} {F : Fx} {W : WX} {P : Out → Prop} {Γ Γ1 Γ2 : List Sl} {a b c e : Expr} {es : List Expr} {pos p p2 : Pos} {k : Nat} {rest : List Stmt}
theorem dt_same {n : Nat} {d d' : PyData} (C : Cal X.prog X.w X.K X.mg X.base k "_law_same" ["a", "b"] (spP X.K (R_same n))) (hr : Room k X.A) (ha : PE X a (tD X.K F Γ (.dat d) Γ1)) (hb : PE X b (tD X.K F Γ1 (.dat d') Γ2)) (h : d = d') (h1 : pl n d)
    (hg : Gl X "_law_same" := by rfl) (he : starEach [a, b] X.env = (false, eval a X.env) :: starEach [b] X.env := by rfl) (he2 : starEach [b] X.env = (false, eval b X.env) :: starEach [] X.env := by rfl) (hpl : (backTo pos (starEach [b] X.env)).any (·.1) = false := by rfl) :
    PT X (.Call (.Name "_law_same" p) [a, b] [] pos) (tDT X.K F Γ true Γ2) := by
  subst h
  have := dt_b (dc (p := p) C hr (da_cons ha (da_cons hb da_nil he2) he) ⟨d, d, rfl, pl_okS h1, pl_okS h1, rfl⟩ rfl hg (by decide) he hpl) (by intro _; rfl)
  rw [sameD_refl d (pl_noDict h1)] at this
  exact this
theorem dt_nsame {n : Nat} {d d' : PyData} (C : Cal X.prog X.w X.K X.mg X.base k "_law_same" ["a", "b"] (spP X.K (R_same n))) (hr : Room k X.A) (ha : PE X a (tD X.K F Γ (.dat d) Γ1)) (hb : PE X b (tD X.K F Γ1 (.dat d') Γ2)) (h : d = d') (h1 : pl n d)
    (hg : Gl X "_law_same" := by rfl) (he : starEach [a, b] X.env = (false, eval a X.env) :: starEach [b] X.env := by rfl) (he2 : starEach [b] X.env = (false, eval b X.env) :: starEach [] X.env := by rfl) (hpl : (backTo pos (starEach [b] X.env)).any (·.1) = false := by rfl) :
    PT X (.UnaryOp .Not (.Call (.Name "_law_same" p) [a, b] [] pos) p2) (tDT X.K F Γ false Γ2) := dt_not (k := true) (dt_same C hr ha hb h h1 hg he he2 hpl)
end
def drawN (f : Nat → Bag → PyData × Bag) : Nat → Nat → Bag → List PyData × Bag
  | _, 0, b => ([], b)
  | j, m + 1, b => ((f j b).1 :: (drawN f (j + 1) m (f j b).2).1, (drawN f (j + 1) m (f j b).2).2)
theorem drawN_len (f : Nat → Bag → PyData × Bag) : ∀ (m j : Nat) (b : Bag), (drawN f j m b).1.length = m
  | 0, _, _ => rfl
  | m + 1, j, b => congrArg (· + 1) (drawN_len f m (j + 1) _)
theorem drawN_mem {f : Nat → Bag → PyData × Bag} {q : PyData → Prop} (h : ∀ j b, q (f j b).1) : ∀ (m j : Nat) (b : Bag), ∀ d ∈ (drawN f j m b).1, q d
  | 0, _, _, _, hd => by cases hd
  | m + 1, j, b, d, hd => by
    rcases List.mem_cons.mp hd with rfl | hd
    · exact h j b
    · exact drawN_mem h m (j + 1) _ d hd
theorem drawN_ok {f : Nat → Bag → PyData × Bag} {c : Int} (hc : 0 ≤ c) (h : ∀ j n b, BagOk n b → BagOk (n + c) (f j b).2) : ∀ (m j : Nat) (b : Bag) (n : Int), BagOk n b → BagOk (n + c * m) (drawN f j m b).2
  | 0, _, _, n, ok => by simpa [drawN] using ok
  | m + 1, j, b, n, ok => by
    have := drawN_ok hc h m (j + 1) _ _ (h j n b ok)
    refine this.mono ?_
    rw [show ((m + 1 : Nat) : Int) = (m : Int) + 1 by omega, Int.mul_add, Int.mul_one]
    omega
theorem drawN_ints {f : Nat → Bag → PyData × Bag} {lo hi : Int} (h : ∀ j b, ∃ i : Int, (f j b).1 = .int i ∧ lo ≤ i ∧ i ≤ hi) (m : Nat) (b : Bag) : ∃ ns : List Int, (drawN f 0 m b).1 = ns.map .int ∧ ns.length = m ∧ ∀ n ∈ ns, lo ≤ n ∧ n ≤ hi := by
  have h1 := drawN_mem (q := fun d => ∃ i : Int, d = .int i ∧ lo ≤ i ∧ i ≤ hi) h m 0 b
  have h2 := drawN_len f m 0 b
  revert h1 h2
  generalize (drawN f 0 m b).1 = l
  intro h1 h2
  induction l generalizing m with
  | nil => exact ⟨[], rfl, h2, fun _ z => by cases z⟩
  | cons d r ih =>
    cases m with
    | zero => cases h2
    | succ m =>
      obtain ⟨ns, e1, e2, e3⟩ := ih m (fun d hd => h1 d (List.mem_cons_of_mem _ hd)) (Nat.succ.inj h2)
      obtain ⟨i, rfl, hi⟩ := h1 d (List.mem_cons_self ..)
      refine ⟨i :: ns, by rw [e1]; rfl, by rw [List.length_cons, e2], fun n hn => ?_⟩
      rcases List.mem_cons.mp hn with rfl | hn
      · exact hi
      · exact e3 n hn
def ofI (g : Bag → Int × Bag) : Nat → Bag → PyData × Bag := fun _ b => (.int (g b).1, (g b).2)
section
variable {X : Cx} {F : Fx} {Γ Γ1 Γ2 : List Sl} {a b e elt iter tg : Expr} {pos p p2 : Pos} {scope : Scope}
theorem lr_draw {g : TG} {y : Str} {ik : Nat} {m : Nat} {lo : Int} (f : Nat → Bag → PyData × Bag) (Γb : Bag → List Sl) (B : Bag) {n c : Int} (ok0 : BagOk n B) (hc : 0 ≤ c) (hf : ∀ j n b, BagOk n b → BagOk (n + c) (f j b).2) (hi : PI X tg iter (tI X.K F Γ (rng lo m) Γ1)) (T : Tgt X.K F g [ik] (aName F ik)) (hN : X.N.Nodup) (ok : BlkOk X.N X.env.scope scope [(y, ik)])
    (hg : ∀ (s : Shared) (H : Hp) (C : Addr) (cl : List (Str × Addr)) (fp : List Addr), PG (X.blk s H scope (compEnvC scope cl C X.env) fp) tg g) (hz : m < 100000)
    (turn : ∀ (j : Nat) (b : Bag), j < m → BagOk (n + c * m) b → ∀ (s : Shared) (H : Hp) (C : Addr) (cl : List (Str × Addr)) (fp : List Addr), PE (X.blk s H scope (compEnvC scope cl C X.env) fp) elt (tD X.K F (st (Γb b) ik (.dat (.int (lo + (j : Int))))) (.dat (f j b).1) (st (Γb (f j b).2) ik (.dat (.int (lo + (j : Int)))))))
    (h1 : wpG Γ1 [ik] = Γb B := by rfl) (hw : ∀ b d, wpG (st (Γb b) ik (.dat d)) [ik] = Γb b := by intro _ _; rfl) (hb : ∀ b, inb (Γb b) ik = true := by intro _; rfl) (hpf : pf F ik = true := by rfl) :
    LcR X F Γ elt tg iter [] scope [(y, ik)] (drawN f 0 m B).1 (Γb (drawN f 0 m B).2) := by
  refine lr_lc (own := [(y, ik)]) (A := aName F ik) (fun j acc Γ => j ≤ m ∧ ∃ b, BagOk (n + c * j) b ∧ Γ = Γb b ∧ acc ++ (drawN f j (m - j) b).1 = (drawN f 0 m B).1 ∧ (drawN f j (m - j) b).2 = (drawN f 0 m B).2) hi T hN ok hg ⟨Nat.zero_le _, B, ok0.mono (by simp), h1, rfl, rfl⟩ (by rw [rng_len]; exact hz) (fun j d acc Γ hd ⟨hj, b, okb, e1, e2, e3⟩ => ?_) (fun acc Γ ⟨hj, b, okb, e1, e2, e3⟩ => ?_) (by simp [hpf])
  · subst e1
    have hlt : j < m := by have := (List.getElem?_eq_some_iff.mp hd).1; rwa [rng_len] at this
    have ed : d = .int (lo + (j : Int)) := by
      rw [rng_get lo hlt] at hd
      exact (Option.some.inj hd).symm
    subst ed
    have hle : n + c * (j : Int) ≤ n + c * (m : Int) := by
      have := Int.mul_le_mul_of_nonneg_left (show (j : Int) ≤ (m : Int) by omega) hc
      omega
    refine ⟨_, true, ⟨rfl, hb b, hpf⟩, fun _ _ _ _ _ => pts_no, fun h => (by cases h), fun _ => ⟨_, _, turn j b hlt (okb.mono hle), hlt, (f j b).2, ?_, hw _ _, ?_, ?_⟩⟩
    · refine (hf j _ b okb).mono ?_
      rw [show ((j + 1 : Nat) : Int) = (j : Int) + 1 by omega, Int.mul_add, Int.mul_one]
      omega
    · rw [show m - j = (m - (j + 1)) + 1 by omega] at e2
      rw [List.append_assoc]
      exact e2
    · rw [show m - j = (m - (j + 1)) + 1 by omega] at e3
      exact e3
  · rw [rng_len] at e2 e3
    rw [Nat.sub_self] at e2 e3
    subst e1
    refine ⟨?_, ?_⟩
    · rw [← e2]
      show acc = acc ++ []
      rw [List.append_nil]
    · rw [← e3]
      rfl
end
theorem getD_mem {ns : List Int} {i : Nat} {q : Int → Prop} (h : ∀ n ∈ ns, q n) (h0 : q 0) : q (ns.getD i 0) := by
  rw [List.getD_eq_getElem?_getD]
  cases z : ns[i]? with
  | none => exact h0
  | some n => exact h n (List.mem_of_getElem? z)
end AM
namespace AM
open PySem PySem.Spec PyProof.Rows L2
theorem cutD_le (ds : List PyData) (lo hi : Option Int) : (cutD ds lo hi).length ≤ ds.length := by
  unfold cutD; rw [List.length_take, List.length_drop]; omega
theorem cutD_mem {ds : List PyData} {lo hi : Option Int} {d : PyData} (h : d ∈ cutD ds lo hi) : d ∈ ds := List.mem_of_mem_drop (List.mem_of_mem_take h)
theorem ixN_last {α : Type} (x : α) (r : List α) : ixN (x :: r).length (-1) = some r.length := by
  unfold ixN
  rw [List.length_cons]
  simp
  omega
theorem ixN_pos {n : Nat} {i : Int} (h : 0 ≤ i) (h2 : i < (n : Int)) : ixN n i = some i.toNat := by
  unfold ixN
  rw [if_pos h, if_pos h2]
theorem bags_call {X : Cx} {k : Nat} {n : Int} {p p0 : Pos} {kk : Nat} {pos pn : Pos} (C : Cal X.prog X.w X.K X.mg X.base k "_law_bags" ["script", "most"] (spBags X.K)) (hr : Room k X.A) (h0 : X.N[0]? = some ("script" : Str) := by rfl) (hx : Vis X.env.scope "script" := by first | exact Or.inl rfl | exact Or.inr rfl) (hg : Gl X "_law_bags" := by rfl)
    (he : starEach [.Name "script" p0, .Constant (.int n) kk pn] X.env = (false, eval (.Name "script" p0) X.env) :: starEach [.Constant (.int n) kk pn] X.env := by rfl) (he2 : starEach [.Constant (.int n) kk pn] X.env = (false, eval (.Constant (.int n) kk pn) X.env) :: starEach [] X.env := by rfl) (hpl : (backTo pos (starEach [.Constant (.int n) kk pn] X.env)).any (·.1) = false := by rfl) :
    PE X (.Call (.Name "_law_bags" p) [.Name "script" p0, .Constant (.int n) kk pn] [] pos) (tBags X.K) := by
  obtain ⟨f, fd, h1, h2, h3, h4⟩ := C.ex
  refine pe_imp (pe_callS (E := WE fun _ _ _ _ => False) h1 hr hg h2 h3 h4 (fun σ => passAt takes0 σ) (pa_cons (pv 0 h0 hx) (pa_cons pe_int pa_nil he2) he) (by decide) he hpl) fun σ H Q ⟨⟨a, ns, e, hS, hl⟩, q⟩ => ?_
  exact ⟨.ref a, e, a, ns, n, rfl, hS, hl, q⟩
end AM
namespace AM
open PySem PySem.Spec PyProof.Rows L2
theorem law_mk {P : Program} {w : World} {K : PySem.W.Frag} {mg : Str → Option Value} {base : Heap} {k : Nat} {st : Stmt} {f : Addr} {fd : FuncData} {N : List Str} (Fl : FunG K "law" "law" st f fd) (S : FnScope N ["script"] (defScope st))
    (body : ∀ (cdv : Value) (A : Around) (outer : List PySem.Env) (s : Shared) (H : Hp) (E : XK), Room k (A.deeper (envOfC "law" (defScope st) s.heap.objs.size f cdv)) →
      PSs (cxOf (L2.CX P w) P w K mg base N "law" (defScope st) f cdv A outer s H E) (defBody st) (fun D σ H => σ.length = N.length ∧ (∃ (a : Addr) (ns : List Int), σ[0]? = some (some (.ref a)) ∧ SqL K H a (ns.map V.int) ∧ ns.length ≤ 63) ∧ LamX.Tabs [] H ∧ ∀ H', D.rt (.bl true) H'))
    (hN : ∀ v : V, (L2.start N [v]).length = N.length ∧ (L2.start N [v])[0]? = some (some v) := by intro _; exact ⟨rfl, rfl⟩) : FnOk P w K mg base (L2.CX P w) (k + 1) f fd ["script"] (spLaw K) := by
  refine Fl.okX S (fun vs H Q E h => ?_) (fun cdv A outer s H vs Q E hr h => ?_)
  · obtain ⟨a, ns, rfl, _⟩ := h; rfl
  · obtain ⟨a, ns, rfl, hS, hlen, tb, q⟩ := h
    exact ⟨_, body cdv A outer s H E hr, (hN _).1, ⟨a, ns, (hN _).2, hS, hlen⟩, tb, q⟩
end AM

set_option Elab.async false
set_option linter.all false
set_option maxRecDepth 100000
set_option maxHeartbeats 2000000
namespace AM
open PySem PySem.Spec PyProof.Rows L2
structure Xcl (K : PySem.W.Frag) (mg : Str → Option Value) (x : Str) (C : Addr) : Prop where
  gC : mg x = some (.ref C)
  ke : PySem.W.keepIn K (.ref C) = true
  q : PySem.W.excIn K C [.type "ValueError", .type "Exception", .type "BaseException", .type "object"] "ValueError.__new__" = true
  sb : PySem.W.subIn K (.ref C) (.type "BaseException") = some true
  ty : PySem.W.typeIn K (.ref C) = some (.type "type")
def tX (K : PySem.W.Frag) (F : Fx) (W : WX) (Γ : List Sl) (c : Addr) (Γ' : List Sl) : TE := fun σ H _ => ∃ G, En K F G σ H Γ ∧ ∀ H' G', Step σ Γ Γ' G H G' H' → En K F G' σ H' Γ' → W (.ref c) none σ H'
section
variable {X : Cx} {F : Fx} {W : WX} {P : Out → Prop} {Γ Γ1 Γ2 : List Sl} {a b c e : Expr} {es : List Expr} {pos pos' p p2 : Pos} {k : Nat} {rest : List Stmt} {C : Addr} {x : Str} {ps : List Str} {rs : List Rv} {ds : List PyData}
theorem ds_raise {m : Str} {j : Nat} (XC : Xcl X.K X.mg x C) (tk : Takes X W) (hP : P (.ex C)) (hg : Gl X x := by rfl) (hc : X.calm = true := by rfl) (hdb : (x == ("__debug__" : Str)) = false := by decide) : PSs X (.Raise (some (.Call (.Name x p) [.Constant (.str m) j p2] [] pos)) none pos' :: rest) (tS X.K F W Γ P) :=
  ds_seq (ps_imp (ps_raise hc tk (pmk_own PySem.F.excBase_ValueError XC.q XC.gC XC.ke (raises_own XC.sb XC.ty) hg hdb)) fun D σ H ⟨G, E, _, _, _, _, q⟩ => q C Γ σ H G hP Same.r E)
theorem de_callX {R : List PyData → Res → Prop} (Cf : Cal X.prog X.w X.K X.mg X.base k x ps (spP X.K R)) (hr : Room k X.A) (tk : Takes X W) (ha : PA X (e :: es) (tDA X.K F Γ rs Γ1)) (hR : R ds (.ex C)) (hd : datS rs = some ds := by rfl)
    (hg : Gl X x := by rfl) (hdb : (x == ("__debug__" : Str)) = false := by decide) (he : starEach (e :: es) X.env = (false, eval e X.env) :: starEach es X.env := by rfl) (hpl : (backTo pos (starEach es X.env)).any (·.1) = false := by rfl) :
    PE X (.Call (.Name x p) (e :: es) [] pos) (tX X.K F W Γ C Γ1) := by
  obtain ⟨f, fd, h1, h2, h3, h4⟩ := Cf.ex
  exact pe_imp (pe_callS (E := WE W) h1 hr hg h2 h3 h4 (fun σ => passAt tk σ) ha hdb he hpl) fun σ H Q ⟨G, E, q⟩ => ⟨G, E, fun vs H1 G1 s1 E1 v1 =>
    ⟨G1, ds, .ex C, E1.le, E1.nt, datS_dp v1 hd, hR, fun H' sm => q H' G1 (s1.trans (Grown.step ⟨sm, Same.r, E1.le.trans sm, fun a o h => .inl ⟨o, h⟩, E1.nt⟩)) (E1.grown ⟨sm, Same.r, E1.le.trans sm, fun a o h => .inl ⟨o, h⟩, E1.nt⟩)⟩⟩
theorem ds_exprX (he : PE X e (tX X.K F W Γ C Γ1)) (hP : P (.ex C)) (hs : swapsWith e none pos.line X.env = pure false := by rfl) : PSs X (.Expr e pos :: rest) (tS X.K F W Γ P) :=
  ds_seq (ps_imp (ps_expr he hs) fun D σ H ⟨G, E, _, _, _, _, q⟩ => ⟨G, E, fun H' G' s E' => q C Γ1 σ H' G' hP s.g E'⟩)
theorem ds_retX (he : PE X e (tX X.K F W Γ C Γ1)) (hP : P (.ex C)) : PSs X (.Return (some e) pos :: rest) (tS X.K F W Γ P) :=
  ds_seq (ps_imp (ps_ret he) fun D σ H ⟨G, E, _, _, _, _, q⟩ => ⟨G, E, fun H' G' s E' => q C Γ1 σ H' G' hP s.g E'⟩)
theorem ds_setX (i : Nat) (he : PE X e (tX X.K F W Γ C Γ1)) (hP : P (.ex C)) (hN : X.N.Nodup) (hi : X.N[i]? = some x := by rfl) (hx : Loc X.env.scope x := by first | exact Or.inl rfl | exact Or.inr rfl)
    (hs : swapsWith e (some (.Name x pos')) pos.line X.env = pure false := by rfl) (hf : X.fn x = true ∨ X.env.scope.names.lookup x = some .local := by first | exact .inl rfl | exact .inr rfl | assumption) : PSs X (.Assign [.Name x pos'] e pos :: rest) (tS X.K F W Γ P) :=
  ds_seq (ps_imp (ps_set hN hi hx he hs hf) fun D σ H ⟨G, E, _, _, _, _, q⟩ => ⟨G, E, fun H' G' s E' => q C Γ1 σ H' G' hP s.g E'⟩)
end
def many (K : PySem.W.Frag) (k : List V → Prop) : List (Value × List V) → Value → Prop
  | [], _ => False
  | (c, its) :: r, cls => ∃ b, PySem.W.exmOne K cls c = some b ∧ (b = true → k its) ∧ (b = false → many K k r cls)
theorem many_imp {K : PySem.W.Frag} {k k' : List V → Prop} (h : ∀ its, k its → k' its) : ∀ {l : List (Value × List V)} {cls : Value}, many K k l cls → many K k' l cls
  | [], _, z => z.elim
  | (c, its) :: r, cls, ⟨b, e, h1, h2⟩ => ⟨b, e, fun hb => h _ (h1 hb), fun hb => many_imp h (h2 hb)⟩
def tsAsk (its : List V) : Addr → Value → Option Addr → TS := fun _ _ _ D σ H => ∀ p, H p = none → D.nx (σ.set 1 (some (.ref p))) (upd H p (.tup its))
theorem wMany_of {K : PySem.W.Frag} {W : WX} {D : Ends} {cls : Value} {d : Option Addr} {σ : L2.St} {H : Hp} : ∀ {l : List (Value × List V)}, many K (fun its => ∀ p, H p = none → D.nx (σ.set 1 (some (.ref p))) (upd H p (.tup its))) l cls → wMany K W D (l.map fun q => (q.1, tsAsk q.2)) cls d σ H
  | [], h => h.elim
  | (c, its) :: r, ⟨b, e, h1, h2⟩ => ⟨b, e, fun hb _ _ => h1 hb, fun hb => wMany_of (h2 hb)⟩
def TTask (K : PySem.W.Frag) (l : List (Value × List V)) : (XK → Hp → VK → Prop) → Hp → VK → Prop := fun tl H Q => ∀ p0, H p0 = none → ∀ Q' : VK, (∀ v H1, (∀ p, H1 p = none → Q (.ref p) (upd H1 p (.tup [.str "told", v]))) → Q' v H1) →
  tl (fun cls _ H1 => many K (fun its => ∀ p, H1 p = none → Q (.ref p) (upd H1 p (.tup its))) l cls) (upd H p0 (.tup [.str "none"])) Q'
theorem hd_cons {X : Cx} {x m a : Str} {c : Value} {np p1 p2 p3 p4 p5 pos' : Pos} {j1 j2 : Nat} {k} {hds : List ExceptHandler} {l : List (Value × List V)} (hc : Names X x c) (hN : X.N.Nodup) (r : HdsOk X hds (l.map fun q => (q.1, tsAsk q.2)))
    (hi : X.N[1]? = some ("found" : Str) := by rfl) (hx : X.env.scope.names.lookup ("found" : Str) = some .local := by rfl) :
    HdsOk X (.ExceptHandler (some (.Name x np)) none [.Assign [.Name "found" p1] (.Tuple [.Constant (.str a) j1 p2, .Constant (.str m) j2 p3] k p4) p5] pos' :: hds) (((c, [.str a, .str m]) :: l).map fun q => (q.1, tsAsk q.2)) := by
  refine .cons hc (fun a' oe cls d pn _ _ => pss_imp (pss_one (ps_set (X := X.suite a' ((a', oe) :: pn)) (i := 1) hN hi (.inl hx) (pe_tup (pa_cons pe_str (pa_cons pe_str pa_nil))) rfl (.inr hx))) fun D σ H h => ?_) r
  exact ⟨by show 2 ≤ sizeLine; decide, fun p hp => h p hp⟩
theorem takes_len {X : Cx} {W : WX} (tk : Takes X W) : Takes X (fun cls d σ H => σ.length = X.N.length → W cls d σ H) := fun u s' ⟨a, B, sI, pins, σ, H, cls, d, e, I, nb, up, sky, na, os, ag, w⟩ =>
  tk u s' ⟨a, B, sI, pins, σ, H, cls, d, e, I, nb, up, sky, na, os, ag, w I.len⟩
theorem ask_gives {X : Cx} {q : Str} {sg : Scope} {g : Addr} {cdg : Value} {hds : List ExceptHandler} {h0 : ExceptHandler} {l : List (Value × List V)} {j1 j2 : Nat} {k1 k2} {p1 p2 p3 p4 p5 p6 p7 p8 p9 p10 p11 p12 p13 : Pos} (hx : sg.names.lookup ("found" : Str) = some .local)
    (hh : ∀ (s : Shared) (H : Hp), HdsOk (cxOf C8.CX0 X.prog X.w X.K X.mg X.base ["deed", "found"] "_law_ask" sg g cdg X.A X.stack s H C8.E0).nox (h0 :: hds) (l.map fun q => (q.1, tsAsk q.2))) :
    LamX.GivesTo X ["deed", "found"] "_law_ask" sg g cdg [.Assign [.Name "found" p1] (.Tuple [.Constant (.str "none") j1 p2] k1 p3) p4, .Try [.Assign [.Name "found" p5] (.Tuple [.Constant (.str "told") j2 p6, .Call (.Name "deed" p7) [] [] p8] k2 p9) p10] (h0 :: hds) [] [] p11, .Return (some (.Name "found" p12)) p13] "deed" q (TTask X.K l) := by
  intro f c' s H Q tl act hc h
  have hN : (["deed", "found"] : List Str).Nodup := by decide
  refine ⟨_, pss_cons (ps_set (i := 1) hN rfl (.inl hx) (pe_tup (pa_cons pe_str pa_nil)) rfl (.inr hx)) (pss_cons (ps_try_many (X := (cxOf C8.CX0 X.prog X.w X.K X.mg X.base ["deed", "found"] "_law_ask" sg g cdg X.A X.stack s H C8.E0).nox) (l := l.map fun q => (q.1, tsAsk q.2))
      (tb := fun W D σ H => ∃ Ech : XK, (∀ cls d σ' H', σ'.length = 2 → Ech cls d H' → W cls d σ' H') ∧ σ[0]? = some (some (.ref f)) ∧ H c' = some (LamX.CodeO c' q) ∧ ∀ Q' : VK, (∀ v H1, (∀ p, H1 p = none → D.nx (σ.set 1 (some (.ref p))) (upd H1 p (.tup [.str "told", v]))) → Q' v H1) → tl Ech H Q')
      rfl rfl takes_none5 (fun W pn xe tk _ => ?_) (hh s H)) (pss_one (ps_ret (pv 1 rfl (.inl hx))))), ?_⟩
  · refine ⟨fun pins s' σ H' D I h' => ?_⟩
    obtain ⟨Ech, hW, h1, h2, h3⟩ := h'
    have hp := act _ pn xe Ech p7 p8 (takes_len tk) (fun cls d σ' H' e hl => hW cls d σ' H' hl e)
    have hq := pss_one (ps_set (pos := p10) (pos' := p5) (X := (cxOf C8.CX0 X.prog X.w X.K X.mg X.base ["deed", "found"] "_law_ask" sg g cdg X.A X.stack s H C8.E0).tr pn xe) (i := 1) hN rfl (.inl hx) (pe_tup (x1 := k2) (pos := p9) (pa_cons (pe_str (x := ("told" : Str)) (pos := p6) (j := j2)) (pa_cons hp pa_nil))) rfl (.inr hx))
    exact hq.run pins s' σ H' D I ⟨h1, h2, h3 _ fun v H1 z => ⟨by show 2 ≤ sizeLine; decide, fun p hp => z p hp⟩⟩
  · refine ⟨by show 1 ≤ sizeLine; decide, fun p0 hp0 => ?_⟩
    have n0 : c' ≠ p0 := ne_of_none hc hp0
    refine ⟨fun cls _ H1 => many X.K (fun its => ∀ p, H1 p = none → Q (.ref p) (upd H1 p (.tup its))) l cls, fun cls d σ' H' hl' hm => wMany_of (many_imp (fun its hk p hp => ⟨.ref p, List.getElem?_set_self (by rw [hl']; decide), hk p hp⟩) hm), rfl, by rw [upd_ne n0]; exact hc, fun Q' hQ => ?_⟩
    exact h p0 hp0 Q' fun v H1 z => hQ v H1 fun p hp => ⟨.ref p, rfl, z p hp⟩
section
variable {K : PySem.W.Frag} {F : Fx} {σ : L2.St} {Γ Γ1 Γ2 : List Sl} {G H H1 : Hp}
theorem En.extN (E : En K F G σ H Γ) (n0 : NT F.H0) (eN : LamX.ExtN H H1) (t : LamX.Tabs F.T H1) : En K F G σ H1 Γ where
  le := fun a o h => eN a o (E.le a o h) (E.nt a o h)
  g0 := E.g0
  fr := E.fr
  base := fun a o n h => eN a o (E.base a o n h) (n0 a o h)
  mu := fun a m => by
    rcases m with ⟨i, m⟩ | ⟨q, m⟩
    · obtain ⟨e, xs, l⟩ := E.pin _ m
      obtain ⟨_, vs, h⟩ := E.own ⟨i, xs, l, e⟩
      exact ⟨_, eN a _ h noTb_lst⟩
    · obtain ⟨ps, h, _⟩ := t _ m
      exact ⟨_, h⟩
  sl := fun i => by
    have s := E.sl i
    cases q : lk Γ i with
    | no => trivial
    | dat d => rw [q] at s; exact s
    | own xs =>
      rw [q] at s
      obtain ⟨p, vs, e, gp, hp, ha, hm⟩ := s
      exact ⟨p, vs, e, gp, eN _ _ hp noTb_lst, ha, hm⟩
  nd := E.nd
  len := E.len
  pin := E.pin
  tab := t
  nt := E.nt
theorem Step.extN (eN : LamX.ExtN H H1) : Step σ Γ Γ G H G H1 := ⟨fun _ _ h => h, fun a o h => .inl ⟨o, h⟩, fun a o h _ t => eN a o h t, fun _ h => h, fun a vs h => ⟨vs, eN a _ h noTb_lst⟩⟩
end
structure AskC (X : Cx) (T : List (Addr × Str)) (l : List (Value × List V)) : Prop where
  ex : ∃ (g c Pt : Addr) (pg : Arguments) (bg : List Stmt) (sg : Scope) (dV kV doc pm cdv ct oc : Value) (an od : Option Addr) (osl : Array (Option Value)), X.mg "_law_ask" = some (.ref g) ∧ PySem.W.keepIn X.K (.ref g) = true ∧
    X.K.lookup g = some ⟨oc, od, .func (PySem.W.fnOf "_law_ask" "_law_ask" pg bg sg dV kV doc pm an cdv ct), osl⟩ ∧ PySem.W.codeIn X.K cdv "_law_ask" = true ∧ L2.Binds X.K (PySem.W.fnOf "_law_ask" "_law_ask" pg bg sg dV kV doc pm an cdv ct) ["deed"] [] ∧
    FnScope ["deed", "found"] ["deed"] sg ∧ Vis sg "deed" ∧ LamX.GivesTo X ["deed", "found"] "_law_ask" sg g cdv bg "deed" (X.env.qual ++ "<lambda>") (TTask X.K l) ∧ LamX.TabB X.base X.mg c Pt ∧ X.env.code = .ref c ∧ (Pt, X.env.qual ++ "<lambda>") ∈ T ∧ ∀ p ∈ T, p.1 = Pt → p.2 = X.env.qual ++ "<lambda>"
def lawQ : Str := ("law" : Str) ++ (".<locals>." : Str)
def lawT (Pt : Addr) : List (Addr × Str) := [(Pt, lawQ ++ ("<lambda>" : Str))]
theorem ask_mk {X : Cx} {st : Stmt} {T : List (Addr × Str)} {l : List (Value × List V)} {c Pt : Addr} (D : Def X.K X.mg "_law_ask" st ["deed"]) (S : FnScope ["deed", "found"] ["deed"] (defScope st)) (hv : Vis (defScope st) "deed")
    (hG : ∀ (g : Addr) (cdv : Value), LamX.GivesTo X ["deed", "found"] "_law_ask" (defScope st) g cdv (defBody st) "deed" (X.env.qual ++ "<lambda>") (TTask X.K l)) (TB : LamX.TabB X.base X.mg c Pt) (hcode : X.env.code = .ref c) (q0 : Str) (hq : X.env.qual = q0) (hT : T = [(Pt, q0 ++ "<lambda>")]) : AskC X T l := by
  have hm : (Pt, X.env.qual ++ "<lambda>") ∈ T := by rw [hT, hq]; exact List.mem_cons_self
  have hu : ∀ p ∈ T, p.1 = Pt → p.2 = X.env.qual ++ "<lambda>" := fun p hp _ => by rw [hT, List.mem_singleton] at hp; rw [hp, hq]
  obtain ⟨f, fd, F, h1, h2⟩ := D.ex
  obtain ⟨oc, od, dV, kV, doc, pm, an, cdv, ct, osl, rfl, lk, hcd⟩ := F.ex
  exact ⟨f, c, Pt, _, _, _, dV, kV, doc, pm, cdv, ct, oc, an, od, osl, h1, F.kp, lk, hcd, h2, S, hv, hG f cdv, TB, hcode, hm, hu⟩
theorem ds_ask {X : Cx} {F : Fx} {W : WX} {P : Out → Prop} {Γ : List Sl} {rest : List Stmt} {l : List (Value × List V)} (a : AskC X F.T l) (h : AskC X F.T l → PSs X rest (tS X.K F W Γ P)) : PSs X rest (tS X.K F W Γ P) := h a
section
variable {X : Cx} {F : Fx} {Γ Γ1 : List Sl} {body : Expr} {scope : Scope} {params : Arguments} {lpos pos p : Pos} {l : List (Value × List V)} {k : Nat} {d : PyData} {C : Addr}
theorem de_ask (A : AskC X F.T l) (n0 : NT F.H0) (hr : Room (k + 2) X.A) (L : LamX.LamS X.env.scope scope)
    (hbody : ∀ (A : Around) (outer : List PySem.Env) (s : Shared) (H : Hp) (E : XK) (f c' : Addr), Room k (A.deeper (LamX.lamEnv X scope s.heap.objs.size f c')) → PE (LamX.lamCx X A outer s H E scope f c') body (tD X.K F Γ (.dat d) Γ1))
    (hg : Gl X "_law_ask" := by rfl) (hdef : defaultsOf params X.env = ([], []) := by rfl) (hbind : ∀ (q : Str) (cl : List (Str × Addr)) (pm cv ctv : Value), bindArgs (PySem.W.kla_fn "<lambda>" q params body scope cl pm cv ctv) ⟨[], []⟩ = pure [] := by intro _ _ _ _ _; rfl) :
    PE X (.Call (.Name "_law_ask" p) [.Lambda params body scope lpos] [] pos) (tD X.K F Γ (.dat (.tuple [.str "told", d])) Γ1) := by
  obtain ⟨g, c, Pt, pg, bg, sg, dV, kV, doc, pm, cdv, ct, oc, an, od, osl, a1, a2, a3, a4, a5, a6, a7, a8, a9, a10, a11, a12⟩ := A.ex
  refine pe_imp (LamX.pe_lamcall (t := fun _ => tD X.K F Γ (.dat d) Γ1) hg a1 a2 a3 a4 a5 a6 rfl a7 a8 a9 a10 a11 a12 hr L hdef hbind (fun A outer s H E f c' hr' => hbody A outer s H E f c' hr')) fun σ H Q ⟨G, E, q⟩ => ⟨E.tab, fun H1 eN t1 p0 hp0 Q' hQ => ?_⟩
  have E1 := E.extN n0 eN t1
  refine ⟨G, E1.newRaw hp0, fun v H2 G2 s2 E2 v2 => hQ v H2 fun p hp => ?_⟩
  have g := (E2.no hp).2.2
  exact q _ _ _ ((Step.extN eN).trans ((Step.newRaw hp0).trans (s2.trans (Step.newDat hp g)))) (E2.newDat hp) (.tup (SqT.of upd_same) (dpa_mono (same_upd g) _ _ (.cons (.str _) (.cons v2 .nil))))
def manyD (K : PySem.W.Frag) (its : List V) : List (Value × List V) → Value → Prop
  | [], _ => False
  | (c, i) :: r, cls => (PySem.W.exmOne K cls c = some true ∧ i = its) ∨ (PySem.W.exmOne K cls c = some false ∧ manyD K its r cls)
theorem many_of {K : PySem.W.Frag} {k : List V → Prop} {its : List V} (h : k its) : ∀ {l : List (Value × List V)} {cls : Value}, manyD K its l cls → many K k l cls
  | [], _, z => z.elim
  | (c, i) :: r, cls, .inl ⟨e, z⟩ => ⟨true, e, fun _ => by rw [z]; exact h, fun z => (by cases z)⟩
  | (c, i) :: r, cls, .inr ⟨e, z⟩ => ⟨false, e, fun z => (by cases z), fun _ => many_of h z⟩
theorem de_askX {a m : Str} (A : AskC X F.T l) (n0 : NT F.H0) (hr : Room (k + 2) X.A) (L : LamX.LamS X.env.scope scope) (hl : manyD X.K [.str a, .str m] l (.ref C))
    (hbody : ∀ (A : Around) (outer : List PySem.Env) (s : Shared) (H : Hp) (E : XK) (f c' : Addr), Room k (A.deeper (LamX.lamEnv X scope s.heap.objs.size f c')) → PE (LamX.lamCx X A outer s H E scope f c') body (tX X.K F (fun cls d _ H => E cls d H) Γ C Γ1))
    (hg : Gl X "_law_ask" := by rfl) (hdef : defaultsOf params X.env = ([], []) := by rfl) (hbind : ∀ (q : Str) (cl : List (Str × Addr)) (pm cv ctv : Value), bindArgs (PySem.W.kla_fn "<lambda>" q params body scope cl pm cv ctv) ⟨[], []⟩ = pure [] := by intro _ _ _ _ _; rfl) :
    PE X (.Call (.Name "_law_ask" p) [.Lambda params body scope lpos] [] pos) (tD X.K F Γ (.dat (.tuple [.str a, .str m])) Γ1) := by
  obtain ⟨g, c, Pt, pg, bg, sg, dV, kV, doc, pm, cdv, ct, oc, an, od, osl, a1, a2, a3, a4, a5, a6, a7, a8, a9, a10, a11, a12⟩ := A.ex
  refine pe_imp (LamX.pe_lamcall (t := fun E => tX X.K F (fun cls d _ H => E cls d H) Γ C Γ1) hg a1 a2 a3 a4 a5 a6 rfl a7 a8 a9 a10 a11 a12 hr L hdef hbind (fun A outer s H E f c' hr' => hbody A outer s H E f c' hr')) fun σ H Q ⟨G, E, q⟩ => ⟨E.tab, fun H1 eN t1 p0 hp0 Q' hQ => ?_⟩
  have E1 := E.extN n0 eN t1
  refine ⟨G, E1.newRaw hp0, fun H2 G2 s2 E2 => many_of (fun p hp => ?_) hl⟩
  have g := (E2.no hp).2.2
  exact q _ _ _ ((Step.extN eN).trans ((Step.newRaw hp0).trans (s2.trans (Step.newDat hp g)))) (E2.newDat hp) (.tup (SqT.of upd_same) (.cons (.str _) (.cons (.str _) .nil)))
end
structure CalD (P : Program) (w : World) (K : PySem.W.Frag) (mg : Str → Option Value) (base : Heap) (k : Nat) (x : Str) (ps : List Str) (sp : Sp) (dvs : List V) : Prop where
  ex : ∃ f fd ds, FnOk P w K mg base (L2.CX P w) k f fd ps sp ∧ mg x = some (.ref f) ∧ PySem.W.keepIn K (.ref f) = true ∧ Binds K fd ps ds ∧ Vals dvs ds
theorem CalD.mono {P : Program} {w : World} {K : PySem.W.Frag} {mg : Str → Option Value} {base : Heap} {j k : Nat} {x : Str} {ps : List Str} {sp : Sp} {dvs : List V} (C : CalD P w K mg base j x ps sp dvs) (h : j ≤ k) : CalD P w K mg base k x ps sp dvs := by
  obtain ⟨f, fd, ds, h1, h2, h3, h4, h5⟩ := C.ex
  exact ⟨f, fd, ds, h1.mono h, h2, h3, h4, h5⟩
section
variable {X : Cx} {F : Fx} {W : WX} {P : Out → Prop} {Γ Γ1 Γ2 : List Sl} {a b c e : Expr} {es : List Expr} {pos pos' p p2 : Pos} {k : Nat} {rest : List Stmt} {C : Addr} {x : Str} {ps : List Str} {rs : List Rv} {ds dds : List PyData} {dvs : List V} {d : PyData}
theorem dcD {R : List PyData → Res → Prop} (Cf : CalD X.prog X.w X.K X.mg X.base k x ps (spP X.K R) dvs) (hr : Room k X.A) (ha : PA X (e :: es) (tDA X.K F Γ rs Γ1)) (hR : R (ds ++ dds) (.ok d)) (hdv : ∀ G, DqAll X.K G dvs dds) (hd : datS rs = some ds := by rfl)
    (hg : Gl X x := by rfl) (hdb : (x == ("__debug__" : Str)) = false := by decide) (he : starEach (e :: es) X.env = (false, eval e X.env) :: starEach es X.env := by rfl) (hpl : (backTo pos (starEach es X.env)).any (·.1) = false := by rfl) :
    PE X (.Call (.Name x p) (e :: es) [] pos) (tD X.K F Γ (.dat d) Γ1) := by
  obtain ⟨f, fd, dsv, h1, h2, h3, h4, h5⟩ := Cf.ex
  exact pe_imp (pe_callSD (E := WE fun _ _ _ _ => False) h1 hr hg h2 h3 h4 h5 (fun σ => passAt takes0 σ) ha hdb he hpl) fun σ H Q ⟨G, E, q⟩ => ⟨G, E, fun vs H1 G1 s1 E1 v1 =>
    ⟨G1, ds ++ dds, .ok d, E1.le, E1.nt, dpa_app (datS_dp v1 hd) (hdv G1), hR, fun v H' G' g hv => q v H' G' (s1.trans g.step) (E1.grown g) hv⟩⟩
theorem dcDX {R : List PyData → Res → Prop} (Cf : CalD X.prog X.w X.K X.mg X.base k x ps (spP X.K R) dvs) (hr : Room k X.A) (tk : Takes X W) (ha : PA X (e :: es) (tDA X.K F Γ rs Γ1)) (hR : R (ds ++ dds) (.ex C)) (hdv : ∀ G, DqAll X.K G dvs dds) (hd : datS rs = some ds := by rfl)
    (hg : Gl X x := by rfl) (hdb : (x == ("__debug__" : Str)) = false := by decide) (he : starEach (e :: es) X.env = (false, eval e X.env) :: starEach es X.env := by rfl) (hpl : (backTo pos (starEach es X.env)).any (·.1) = false := by rfl) :
    PE X (.Call (.Name x p) (e :: es) [] pos) (tX X.K F W Γ C Γ1) := by
  obtain ⟨f, fd, dsv, h1, h2, h3, h4, h5⟩ := Cf.ex
  exact pe_imp (pe_callSD (E := WE W) h1 hr hg h2 h3 h4 h5 (fun σ => passAt tk σ) ha hdb he hpl) fun σ H Q ⟨G, E, q⟩ => ⟨G, E, fun vs H1 G1 s1 E1 v1 =>
    ⟨G1, ds ++ dds, .ex C, E1.le, E1.nt, dpa_app (datS_dp v1 hd) (hdv G1), hR, fun H' sm => q H' G1 (s1.trans (Grown.step ⟨sm, Same.r, E1.le.trans sm, fun a o h => .inl ⟨o, h⟩, E1.nt⟩)) (E1.grown ⟨sm, Same.r, E1.le.trans sm, fun a o h => .inl ⟨o, h⟩, E1.nt⟩)⟩⟩
end
structure DefV (K : PySem.W.Frag) (mg : Str → Option Value) (x : Str) (st : Stmt) (ps : List Str) (dvs : List V) (n : Nat) (ks : List Str) : Prop where
  ex : ∃ f fd ds, FunG K x x st f fd ∧ mg x = some (.ref f) ∧ Binds K fd ps [] ∧ Vals dvs ds ∧ Binds K fd ps ds ∧ KBn K fd ps n ks (· ++ ·) (· ++ ·)
structure CalV (P : Program) (w : World) (K : PySem.W.Frag) (mg : Str → Option Value) (base : Heap) (k : Nat) (x : Str) (ps : List Str) (sp : Sp) (dvs : List V) (n : Nat) (ks : List Str) : Prop where
  ex : ∃ f fd ds, FnOk P w K mg base (L2.CX P w) k f fd ps sp ∧ mg x = some (.ref f) ∧ PySem.W.keepIn K (.ref f) = true ∧ Binds K fd ps [] ∧ Vals dvs ds ∧ Binds K fd ps ds ∧ KBn K fd ps n ks (· ++ ·) (· ++ ·)
section
variable {P : Program} {w : World} {K : PySem.W.Frag} {mg : Str → Option Value} {base : Heap} {j k n : Nat} {x : Str} {N ps ks : List Str} {sp : Sp} {dvs : List V} {st : Stmt}
theorem CalV.mono (C : CalV P w K mg base j x ps sp dvs n ks) (h : j ≤ k) : CalV P w K mg base k x ps sp dvs n ks := by
  obtain ⟨f, fd, ds, h1, r⟩ := C.ex
  exact ⟨f, fd, ds, h1.mono h, r⟩
theorem CalV.full (C : CalV P w K mg base k x ps sp dvs n ks) : Cal P w K mg base k x ps sp := by
  obtain ⟨f, fd, ds, h1, h2, h3, h4, _⟩ := C.ex
  exact ⟨f, fd, h1, h2, h3, h4⟩
theorem CalV.dflt (C : CalV P w K mg base k x ps sp dvs n ks) : CalD P w K mg base k x ps sp dvs := by
  obtain ⟨f, fd, ds, h1, h2, h3, h4, h5, h6, _⟩ := C.ex
  exact ⟨f, fd, ds, h1, h2, h3, h6, h5⟩
theorem cal_pureV {R : List PyData → Res → Prop} (D : DefV K mg x st ps dvs n ks) (S : FnScope N ps (defScope st)) (len : ∀ ds r, R ds r → ds.length = ps.length) (hle : ps.length ≤ N.length)
    (body : ∀ (f : Addr) (cdv : Value) (A : Around) (outer : List PySem.Env) (s : Shared) (H G : Hp) (E : XK) (ds : List PyData) (r : Res), Room k (A.deeper (envOfC x (defScope st) s.heap.objs.size f cdv)) → R ds r →
      PSs (cxOf (L2.CX P w) P w K mg base N x (defScope st) f cdv A outer s H E) (defBody st) (tS K (fx0 H G) (fun c d _ H => E c d H) (startG N.length ds) (wantP r))) : CalV P w K mg base (k + 1) x ps (spP K R) dvs n ks := by
  obtain ⟨f, fd, ds, F, h1, h2, h3, h4, h5⟩ := D.ex
  exact ⟨f, fd, ds, fn_pure F S len hle (body f), h1, F.kp, h2, h3, h4, h5⟩
end
section
variable {X : Cx} {F : Fx} {Γ Γ1 Γ2 : List Sl} {a b c e : Expr} {es : List Expr} {pos pos' p p2 : Pos} {k n : Nat} {x : Str} {ps ks : List Str} {rs : List Rv} {ds : List PyData} {dvs : List V} {d d2 : PyData} {kws : List Keyword}
theorem dcK {R : List PyData → Res → Prop} {nm : Option Str} {kpos : Pos} (Cf : CalV X.prog X.w X.K X.mg X.base k x ps (spP X.K R) dvs n ks) (hr : Room k X.A) (ha : PA X (e :: es) (tDA X.K F Γ rs Γ1)) (hb : PE X b (tD X.K F Γ1 (.dat d2) Γ2)) (hR : R (ds ++ [d2]) (.ok d)) (hn : ds.length = n) (hks : ks.length = 1) (hd : datS rs = some ds := by rfl)
    (hg : Gl X x := by rfl) (hall : (backToKw pos (keywordEach [⟨nm, b, kpos⟩] X.env)).all (·.1.isSome) = true := by rfl) (hks2 : (backToKw pos (keywordEach [⟨nm, b, kpos⟩] X.env)).filterMap (·.1) = ks := by rfl)
    (hdb : (x == ("__debug__" : Str)) = false := by decide) (he : starEach (e :: es) X.env = (false, eval e X.env) :: starEach es X.env := by rfl)
    (hpl : ((backTo pos (starEach (e :: es) X.env)).any (·.1) || (backToKw pos (keywordEach [⟨nm, b, kpos⟩] X.env)).any (·.1.isNone)) = false := by rfl) :
    PE X (.Call (.Name x p) (e :: es) [⟨nm, b, kpos⟩] pos) (tD X.K F Γ (.dat d) Γ2) := by
  obtain ⟨f, fd, dsv, h1, h2, h3, h4, h5, h6, h7⟩ := Cf.ex
  refine pe_imp (pe_callN (E := fun _ _ _ => False) h1 hr hg h2 h3 h7 (fun pins σ H s e s' I c => passes_call takes0 (fun _ _ _ _ h => h) pins σ H s e s' I c) ha (pk_cons hb pk_nil) hall hks2 hdb he hpl) fun σ H Q ⟨G, E, q⟩ => ⟨G, E, fun vs H1 G1 s1 E1 v1 => ⟨G1, E1, fun v H2 G2 s2 E2 v2 => ?_⟩⟩
  have a1 := datS_dp v1 hd
  refine ⟨(dpa_len a1).trans hn, hks.symm, G2, ds ++ [d2], .ok d, E2.le, E2.nt, dpa_app (dpa_mono s2.g _ _ a1) (.cons v2 .nil), hR, fun v H' G' g hv => q v H' G' ((s1.trans s2).trans g.step) (E2.grown g) hv⟩
end
theorem bindsTo_d {s : Shared} {fd : FuncData} {args : Args} {binds : List (Str × Value)} {K : PySem.W.Frag} {T : Addr} {o : Obj} {its : Array Value} {n : Nat} (kin : K.In s.heap) (lT : K.lookup T = some o) (oT : o.data = .seq its n)
    (h : ∃ k, bindArgs fd args = seqItems? (.ref T) >>= k ∧ k (some its) = pure binds) : BindsTo s fd args binds := by
  obtain ⟨k, e1, e2⟩ := h
  refine BindsTo.of_looks fun M => ?_
  rw [e1]
  exact looks_items kin lT oT (.of_pure e2)
theorem law_mkT {P : Program} {w : World} {K : PySem.W.Frag} {mg : Str → Option Value} {base : Heap} {k : Nat} {st : Stmt} {f c : Addr} {N : List Str} {T : List (Addr × Str)} {oc kV doc pm ct : Value} {od an : Option Addr} {osl : Array (Option Value)}
    (lk : K.lookup f = some ⟨oc, od, .func (PySem.W.fnOf "law" "law" (defArgs st) (defBody st) (defScope st) .none kV doc pm an (.ref c) ct), osl⟩) (hcd : PySem.W.codeIn K (.ref c) "law" = true) (S : FnScope N ["script"] (defScope st))
    (body : ∀ (A : Around) (outer : List PySem.Env) (s : Shared) (H : Hp) (E : XK), Room k (A.deeper (envOfC "law" (defScope st) s.heap.objs.size f (.ref c))) →
      PSs (cxOf (L2.CX P w) P w K mg base N "law" (defScope st) f (.ref c) A outer s H E) (defBody st) (fun D σ H => σ.length = N.length ∧ (∃ (a : Addr) (ns : List Int), σ[0]? = some (some (.ref a)) ∧ SqL K H a (ns.map V.int) ∧ ns.length ≤ 63) ∧ LamX.Tabs T H ∧ ∀ H', D.rt (.bl true) H'))
    (hN : ∀ v : V, (L2.start N [v]).length = N.length ∧ (L2.start N [v])[0]? = some (some v) := by intro _; exact ⟨rfl, rfl⟩) : FnOk P w K mg base (L2.CX P w) (k + 1) f (PySem.W.fnOf "law" "law" (defArgs st) (defBody st) (defScope st) .none kV doc pm an (.ref c) ct) ["script"] (spLaw K T) := by
  refine fn_of lk hcd S (fun vs H Q E h => ?_) (fun A outer s H vs Q E hr h => ?_)
  · obtain ⟨a, ns, rfl, _⟩ := h; rfl
  · obtain ⟨a, ns, rfl, hS, hlen, tb, q⟩ := h
    exact ⟨_, body A outer s H E hr, (hN _).1, ⟨a, ns, (hN _).2, hS, hlen⟩, tb, q⟩
theorem law_atT {l : PySem.W.OpenLaw} {w : World} {K : PySem.W.Frag} {mg : Str → Option Value} {k : Nat} {fa c Pt : Addr} {h : Heap} {name qual : Str} {params : Arguments} {body : List Stmt} {scope : Scope} {dV kV doc pm ct oc : Value} {od an : Option Addr} {osl : Array (Option Value)} {q : Str} (KX : K.In h)
    (lk : K.lookup fa = some ⟨oc, od, .func (PySem.W.fnOf name qual params body scope dV kV doc pm an (.ref c) ct), osl⟩) (hc : PySem.W.codeHdIn K c Pt = true) (nP : K.lookup Pt = none) (hT : h.get? Pt = some { cls := .none, data := .fields #[] })
    (hb : ∀ (s : Shared) (v : Value), BindsTo s (PySem.W.fnOf name qual params body scope dV kV doc pm an (.ref c) ct) ⟨[v], []⟩ [("script", v)])
    (F : ∀ base : Heap, K.In base → base.Ns mainGlobals mg → LamX.TabB base mg c Pt → FnOk l.prog w K mg base (L2.CX l.prog w) k fa (PySem.W.fnOf name qual params body scope dV kV doc pm an (.ref c) ct) ["script"] (spLaw K [(Pt, q)])) : LamX.LawAtS l w K (L2.CX l.prog w) k 63 "script" mg fa h := by
  refine ⟨_, [(c, Pt)], spLaw K [(Pt, q)], fun p hp => ?_, fun p hp => ?_, fun p hp => ?_, hb, fun H a ns hl _ hH hS => ⟨a, ns, rfl, hS, hl, fun p hp => ?_, fun _ => rfl⟩, fun base k1 k2 k3 => F base k1 k2 (k3 _ List.mem_cons_self)⟩
  · rw [List.mem_singleton] at hp; subst hp; exact hT
  · rw [List.mem_singleton] at hp; subst hp; exact nP
  · rw [List.mem_singleton] at hp; subst hp; exact PySem.W.codeHd_of_K KX hc
  · rw [List.mem_singleton] at hp; subst hp
    exact LamX.TabS.nil (hH _ List.mem_cons_self)
end AM

set_option Elab.async false
set_option linter.all false
set_option maxRecDepth 100000
set_option maxHeartbeats 2000000
namespace AM
open PySem PySem.Spec PyProof.Rows L2
theorem fmod_nat (x y : Nat) : (x : Int).fmod (y : Int) = ((x % y : Nat) : Int) := by
  rw [Int.fmod_eq_emod_of_nonneg _ (by omega)]; exact (Int.natCast_emod x y).symm
def sgcd (a b : Int) : Int := if b < 0 then 0 - (Int.gcd a b : Int) else (Int.gcd a b : Int)
def lowT (a b : Int) : Int := a.fdiv (sgcd a b)
def lowB (a b : Int) : Int := b.fdiv (sgcd a b)
def lowD (a b : Int) : PyData := .tuple [.int (lowT a b), .int (lowB a b)]
theorem gcd_pos {a b : Int} (h : b ≠ 0) : 0 < Int.gcd a b := Int.gcd_pos_of_ne_zero_right a h
theorem sgcd_ne {a b : Int} (h : b ≠ 0) : sgcd a b ≠ 0 := by
  have := gcd_pos (a := a) h
  unfold sgcd; split <;> omega
theorem sgcd_abs {a b : Int} (h : b ≠ 0) : (sgcd a b).natAbs ≤ b.natAbs := by
  have h1 := Nat.le_of_dvd (by omega) (Int.gcd_dvd_natAbs_right a b)
  unfold sgcd; split <;> omega
def R_gcd : List PyData → Res → Prop := fun ds r => ∃ a b : Int, ds = [.int a, .int b] ∧ r = .ok (.int (Int.gcd a b : Int))
def R_low : List PyData → Res → Prop := fun ds r => ∃ a b : Int, ds = [.int a, .int b] ∧ b ≠ 0 ∧ b.natAbs < 2 ^ 9000 ∧ r = .ok (lowD a b)
def isRatioD : PyData → Bool
  | .tuple [.int a, .int b] => decide (0 < b) && decide ((Int.gcd a b : Int) = 1)
  | _ => false
theorem small9 {i : Int} (h : -1000000000000000 ≤ i ∧ i ≤ 1000000000000000) : i.natAbs < 2 ^ 9000 := by
  have h1 : i.natAbs < 2 ^ 50 := by
    have e : (2 : Nat) ^ 50 = 1125899906842624 := by decide
    rw [e]; omega
  exact Nat.lt_of_lt_of_le h1 (Nat.pow_le_pow_right (by decide) (by decide))
theorem pl_str (n : Nat) (s : Str) (h : PyData.canLay0 (.str s) = true) : pl n (.str s) := by cases n <;> exact h
theorem pl_low (a b : Int) : pl 10 (lowD a b) := pl_ints 9 (ns := [lowT a b, lowB a b]) (by simp)
theorem lowD_one (a : Int) : lowD a 1 = .tuple [.int a, .int 1] := by
  have e : sgcd a 1 = 1 := by unfold sgcd; rw [if_neg (by decide), Int.gcd_one]; rfl
  unfold lowD lowT lowB; rw [e, Int.fdiv_one]; rfl
def gcdL : Nat → List Int → Nat
  | g, [] => g
  | g, a :: r => gcdL (Nat.gcd g a.natAbs) r
def R_gcdL : List PyData → Res → Prop := fun ds r => ∃ (d : PyData) (ns : List Int), ds = [d] ∧ sqOf d = some (ns.map .int) ∧ r = .ok (.int (gcdL 0 ns : Int))
end AM

set_option Elab.async false
set_option linter.all false
set_option maxRecDepth 100000
set_option maxHeartbeats 4000000
namespace AM
open PySem PySem.Spec PyProof.Rows L2
theorem mulT1 (l : Addr) (us : Array Value) (n : Nat) (dd : Option Addr) (sl : Array (Option Value)) (t : Tok) :
    Meets (Builtin.«tuple.__mul__» ⟨[.ref l, .int 1 t], []⟩) (fun _ R s => s.heap.get? l = some { cls := .type "tuple", dict := dd, data := .seq us n, slots := sl } ∧ R (.ok (.ret (.ref l))) s) :=
  .of_wp fun prog w A R s ⟨hl, h⟩ => by
    obtain ⟨hp, g, d, tk, os⟩ := s
    have f1 := AutoSeq1.idx_int
    wp_walk using wpAny_loadPart' hl
    exact ⟨_, rfl, h⟩
theorem mulT0 (l : Addr) (us : Array Value) (n : Nat) (dd : Option Addr) (sl : Array (Option Value)) (x : Int) (t : Tok) (hx : x ≤ 0) (hn : us.isEmpty = false) (h63 : -(2 ^ 63) ≤ x) :
    Meets (Builtin.«tuple.__mul__» ⟨[.ref l, .int x t], []⟩) (fun _ R s => s.heap.get? l = some { cls := .type "tuple", dict := dd, data := .seq us n, slots := sl } ∧
      R (.ok (.ret (Value.ref s.heap.objs.size))) { s with heap := s.heap.push { cls := Value.type "tuple", data := Data.seq #[] }, toks := s.toks }) :=
  .of_wp fun prog w A R s ⟨hl, h⟩ => by
    obtain ⟨hp, g, d, tk, os⟩ := s
    have f1 := AutoSeq1.idx_int
    wp_walk using wpAny_loadPart' hl
    have e0 : (decide (x < -(2 ^ 63)) || decide (x ≥ 2 ^ 63)) = false := by rw [decide_eq_false (by omega), decide_eq_false (by omega)]; rfl
    have e1 : (us.isEmpty || x == 1) = false := by rw [hn, beq_eq_false_iff_ne.mpr (by omega : x ≠ 1)]; rfl
    have e2 : (decide (x ≤ 0) || us.isEmpty) = true := by rw [decide_eq_true hx]; rfl
    repeat (first
      | (refine wpAny_ite_false (decide_eq_false (by rw [e0]; decide)) ?_; wp_walk using wpAny_loadPart' hl)
      | (refine wpAny_ite_false (decide_eq_false (by rw [e1]; decide)) ?_; wp_walk using wpAny_loadPart' hl)
      | (refine wpAny_ite_true (decide_eq_true e2) ?_; wp_walk using wpAny_loadPart' hl))
    exact ⟨_, rfl, h⟩
def rRepS (K : PySem.W.Frag) : R2 := fun x y H Q => ∃ l k xs, x = .ref l ∧ y = .int k ∧ SqT K H l xs ∧ xs ≠ [] ∧ ((k = 1 ∧ Q (.ref l) H) ∨ (k ≤ 0 ∧ -(2 ^ 63) ≤ k ∧ ∀ p, H p = none → Q (.ref p) (upd H p (.tup []))))
section
variable {X : Cx}
theorem op_repS : OpR X (binaryOp .Mult) (rRepS X.K) := by
  intro pins s σ H x y v u Q I rx ry h
  obtain ⟨l, k, xs, rfl, rfl, hT, hne, alt⟩ := h
  cases rx
  obtain ⟨t, rfl⟩ := ry
  obtain ⟨its, r, ⟨⟨cls, dd, data, sl⟩, ho, hc, n, hd⟩, hs⟩ := I.tuple hT
  simp only at hc hd
  subst hc hd
  have hi : its.toArray.isEmpty = false := by
    cases its with
    | nil => exact absurd (List.eq_nil_of_length_eq_zero (r.length)) hne
    | cons a b => rfl
  rcases alt with ⟨rfl, q⟩ | ⟨h0, h63, q⟩
  · refine wpAny_binaryOp_repeat_ref (T := "tuple") (U := "int") (by decide) ⟨_, ho, rfl⟩ (fun s' => typeIs_int s' 1 t) noFill_tuple_mul F.fills_int_mul F.slot_int_rmul repeat_tuple F.slot_int_index.lookup
      (call_meets F.slot_int_rmul (typeIs_int s 1 t) F.entry_int_rmul (F.args_int_rmul_2 _ _) (int_rmul_tuple 1 t l its.toArray n dd sl) ⟨ho, rfl, ⟨_, ho, rfl⟩, ?_⟩)
    exact call_meets F.slot_tuple_mul ⟨_, ho, rfl⟩ F.entry_tuple_mul (F.args_tuple_mul_2 _ _) (mulT1 l its.toArray n dd sl t) ⟨ho, ⟨.ref l, H, I, rfl, q⟩⟩
  · refine wpAny_binaryOp_repeat_ref (T := "tuple") (U := "int") (by decide) ⟨_, ho, rfl⟩ (fun s' => typeIs_int s' k t) noFill_tuple_mul F.fills_int_mul F.slot_int_rmul repeat_tuple F.slot_int_index.lookup
      (call_meets F.slot_int_rmul (typeIs_int s k t) F.entry_int_rmul (F.args_int_rmul_2 _ _) (int_rmul_tuple k t l its.toArray n dd sl) ⟨ho, rfl, ⟨_, ho, rfl⟩, ?_⟩)
    refine call_meets F.slot_tuple_mul ⟨_, ho, rfl⟩ F.entry_tuple_mul (F.args_tuple_mul_2 _ _) (mulT0 l its.toArray n dd sl k t h0 hi h63) ⟨ho, ?_⟩
    refine ⟨.ref s.heap.objs.size, _, I.laid (t' := s.toks) (o := .tup []) (fun b ob q => Heap.get?_push_of_some _ q) (Nat.le_refl _) ?_, rfl, q _ (I.hok.fresh (Nat.le_refl _))⟩
    exact ⟨by decide, _, .nil, IsTup.new _ _⟩
end
section
variable {X : Cx} {F : Fx} {Γ Γ1 Γ2 : List Sl} {a b : Expr} {pos : Pos}
theorem rd_repS {K : PySem.W.Frag} {as : List PyData} {m : Int} (hne : as ≠ []) (h1 : m ≤ 1) (h2 : -(2 ^ 63) ≤ m) : RD2 K F Γ (rRepS K) (.dat (.tuple as)) (.dat (.int m)) (.dat (.tuple (List.replicate m.toNat as).flatten)) := fun G H σ x y Q E vx vy k => by
  obtain ⟨p1, v1, rfl, q1, a1⟩ := dp_tup vx
  refine ⟨p1, m, v1, rfl, dp_int vy, sqT_mono E.le q1, fun e => hne ((dpa_nil_iff a1).mp e), ?_⟩
  by_cases h : m = 1
  · subst h
    refine .inl ⟨rfl, k _ H G Step.refl E ?_⟩
    have e : (List.replicate (1 : Int).toNat as).flatten = as := by simp
    rw [e]; exact vx
  · refine .inr ⟨by omega, h2, fun l hl' => ?_⟩
    have g := (E.no hl').2.2
    have e : (List.replicate m.toNat as).flatten = [] := by rw [show m.toNat = 0 by omega]; rfl
    rw [e] at k
    exact k _ _ _ (Step.newDat hl' g) (E.newDat hl') (.tup (SqT.of upd_same) .nil)
theorem de_rep {as : List PyData} {m : Int} (ha : PE X a (tD X.K F Γ (.dat (.tuple as)) Γ1)) (hb : PE X b (tD X.K F Γ1 (.dat (.int m)) Γ2)) (hne : as ≠ []) (h1 : -(2 ^ 63) ≤ m) (h2 : m ≤ 1000) (hz : as.length ≤ 1000) : PE X (.BinOp a .Mult b pos) (tD X.K F Γ (.dat (.tuple (List.replicate m.toNat as).flatten)) Γ2) := by
  by_cases h : 2 ≤ m
  · exact de_repT ha hb hne h h2 hz
  · exact de_op op_repS (rd_repS hne (by omega) h1) ha hb
theorem rn_rep {K : PySem.W.Frag} {as : List PyData} {m : Int} (h1 : -(2 ^ 63) ≤ m) (h2 : m < 2 ^ 63) (hz : as.length * m.toNat ≤ 100000) (hx : True) : ∀ G H σ x y (Q : VK), En K F G σ H Γ → (∃ p vs, x = .ref p ∧ H p = some (.lst vs) ∧ DqAll K G vs as) → VR K G σ y (.dat (.int m)) →
    (∀ p vs H' G', Step σ Γ Γ G H G' H' → En K F G' σ H' Γ → Fre F H p → G' p = none → H' p = some (.lst vs) → DqAll K G' vs (List.replicate m.toNat as).flatten → Q (.ref p) H') → rRep x y H Q := fun G H σ x y Q E ⟨p, vs, ex, hp, al⟩ vy k =>
  ⟨p, m, vs, ex, dp_int vy, hp, h1, h2, by rw [dpa_len al]; exact Nat.le_trans hz (by decide), fun l hl => k l _ _ G (Step.newRaw hl) (E.newRaw hl) (fre_of Step.refl E hl) (E.no hl).2.2 upd_same (dpa_flat al _)⟩
theorem dn_rep {as : List PyData} {m : Int} (ha : PE X a (tN X.K F Γ as Γ1)) (hb : PE X b (tD X.K F Γ1 (.dat (.int m)) Γ1)) (h1 : -(2 ^ 63) ≤ m) (h2 : m < 2 ^ 63) (hz : as.length * m.toNat ≤ 100000) : PE X (.BinOp a .Mult b pos) (tN X.K F Γ (List.replicate m.toNat as).flatten Γ1) :=
  pe_imp (pe_op op_rep ha hb) fun σ H Q ⟨G, E, q⟩ => ⟨G, E, fun p vs H1 G1 s1 E1 fr gp hp al => ⟨G1, E1, fun y H2 G2 s2 E2 vy => by
    have nO : ¬ Own σ Γ1 p := own_ne s1 E fr.1
    have hp2 : H2 p = some (.lst vs) := s2.k p _ hp nO noTb_lst
    exact rn_rep h1 h2 hz trivial G2 H2 σ _ y Q E2 ⟨p, vs, rfl, hp2, dpa_mono s2.g _ _ al⟩ vy fun p' vs' H3 G3 s3 E3 f3 g3 h3 a3 => q p' vs' H3 G3 ((s1.trans s2).trans s3) E3 (f3.back (s1.trans s2)) g3 h3 a3⟩⟩
end
end AM

set_option Elab.async false
set_option linter.all false
set_option maxRecDepth 100000
set_option maxHeartbeats 2000000
namespace AM
open PySem PySem.Spec PyProof.Rows L2
def trimZ : List Int → List Int
  | [] => []
  | a :: r => match trimZ r with
    | [] => if a = 0 then [] else [a]
    | t => a :: t
theorem trimZ_snoc0 : ∀ ns : List Int, trimZ (ns ++ [0]) = trimZ ns
  | [] => rfl
  | a :: r => by simp only [List.cons_append, trimZ, trimZ_snoc0 r]
theorem trimZ_snoc {x : Int} (h : x ≠ 0) : ∀ ns : List Int, trimZ (ns ++ [x]) = ns ++ [x]
  | [] => by simp [trimZ, h]
  | a :: r => by
    simp only [List.cons_append, trimZ, trimZ_snoc h r]
    cases z : r ++ [x] with
    | nil => simp at z
    | cons b t => rfl
theorem trimZ_len : ∀ ns : List Int, (trimZ ns).length ≤ ns.length
  | [] => Nat.le_refl _
  | a :: r => by
    have := trimZ_len r
    simp only [trimZ]
    split
    · split <;> simp
    · simp only [List.length_cons]; omega
theorem trimZ_mem {x : Int} : ∀ {ns : List Int}, x ∈ trimZ ns → x ∈ ns
  | [], h => h
  | a :: r, h => by
    simp only [trimZ] at h
    split at h
    · split at h
      · cases h
      · rw [List.mem_singleton] at h; subst h; exact List.mem_cons_self
    · rcases List.mem_cons.mp h with rfl | h
      · exact List.mem_cons_self
      · exact List.mem_cons_of_mem _ (trimZ_mem h)
def trimd (ns : List Int) : Prop := ns = [] ∨ ∃ r x, x ≠ 0 ∧ ns = r ++ [x]
theorem trimZ_id {ns : List Int} (h : trimd ns) : trimZ ns = ns := by
  rcases h with rfl | ⟨r, x, h, rfl⟩
  · rfl
  · exact trimZ_snoc h r
theorem trimd_trimZ : ∀ ns : List Int, trimd (trimZ ns)
  | [] => .inl rfl
  | a :: r => by
    simp only [trimZ]
    have ih := trimd_trimZ r
    cases z : trimZ r with
    | nil =>
      by_cases h : a = 0
      · exact .inl (by simp [h])
      · exact .inr ⟨[], a, h, by simp [h]⟩
    | cons b t =>
      rw [z] at ih
      rcases ih with ih | ⟨q, x, hx, e⟩
      · cases ih
      · exact .inr ⟨a :: q, x, hx, by show a :: b :: t = _; rw [e]; rfl⟩
theorem trimd_last {ns : List Int} : trimd ns ↔ lastOk ns = true := by
  unfold lastOk
  constructor
  · rintro (rfl | ⟨r, x, h, rfl⟩)
    · rfl
    · simp [h]
  · intro h
    rcases List.eq_nil_or_concat ns with rfl | ⟨r, x, rfl⟩
    · exact .inl rfl
    · exact .inr ⟨r, x, by simpa using h, by simp⟩
theorem cut_take (ns : List Int) (m : Nat) : cutD (ns.map PyData.int) none (some (m : Int)) = (ns.take m).map .int := by
  unfold cutD
  rw [HT.sIx_none, HT.sIx_nat, List.drop_zero, Nat.sub_zero, List.length_map, List.map_take, ← List.length_map (f := PyData.int), List.take_eq_take_iff]
  omega
def padZ (f : List Int) (m : Nat) : List Int := f ++ List.replicate (m - f.length) 0
def addZ (f g : List Int) : List Int := trimZ (List.zipWith (· + ·) (padZ f (max f.length g.length)) (padZ g (max f.length g.length)))
theorem rep0 (m : Nat) : (List.replicate m [PyData.int 0]).flatten = (List.replicate m (0 : Int)).map .int := by
  induction m with
  | zero => rfl
  | succ m ih => rw [List.replicate_succ, List.flatten_cons, ih]; rfl
def addAt (acc : List Int) (i : Nat) (x : Int) : List Int := acc.set i (acc.getD i 0 + x)
def inn (acc : List Int) (i : Nat) (a : Int) : List Int → List Int
  | [] => acc
  | b :: g => inn (addAt acc i (a * b)) (i + 1) a g
def out (acc : List Int) (i : Nat) (g : List Int) : List Int → List Int
  | [] => acc
  | a :: f => out (inn acc i a g) (i + 1) g f
theorem addAt_len (acc : List Int) (i : Nat) (x : Int) : (addAt acc i x).length = acc.length := List.length_set
theorem inn_len (a : Int) : ∀ (g : List Int) (acc : List Int) (i : Nat), (inn acc i a g).length = acc.length
  | [], _, _ => rfl
  | b :: g, acc, i => by rw [inn, inn_len a g, addAt_len]
theorem out_len (g : List Int) : ∀ (f : List Int) (acc : List Int) (i : Nat), (out acc i g f).length = acc.length
  | [], _, _ => rfl
  | a :: f, acc, i => by rw [out, out_len g f, inn_len]
theorem inn_step (a : Int) : ∀ (g : List Int) (acc : List Int) (i j : Nat) (b : Int), g[j]? = some b → inn acc i a (g.take (j + 1)) = addAt (inn acc i a (g.take j)) (i + j) (a * b)
  | [], _, _, _, _, h => by cases h
  | c :: g, acc, i, 0, b, h => by cases h; rfl
  | c :: g, acc, i, j + 1, b, h => by
    show inn _ _ _ (g.take (j + 1)) = addAt (inn _ _ _ (g.take j)) _ _
    rw [inn_step a g _ (i + 1) j b h, show i + 1 + j = i + (j + 1) by omega]
theorem out_step (g : List Int) : ∀ (f : List Int) (acc : List Int) (i j : Nat) (a : Int), f[j]? = some a → out acc i g (f.take (j + 1)) = inn (out acc i g (f.take j)) (i + j) a g
  | [], _, _, _, _, h => by cases h
  | c :: f, acc, i, 0, a, h => by cases h; rfl
  | c :: f, acc, i, j + 1, a, h => by
    show out _ _ _ (f.take (j + 1)) = inn (out _ _ _ (f.take j)) _ _ _
    rw [out_step g f _ (i + 1) j a h, show i + 1 + j = i + (j + 1) by omega]
theorem addAt_snoc {acc : List Int} {i : Nat} (h : i < acc.length) (x y : Int) : addAt (acc ++ [y]) i x = addAt acc i x ++ [y] := by
  unfold addAt
  rw [List.set_append_left _ _ h, List.getD_eq_getElem?_getD, List.getElem?_append_left h, ← List.getD_eq_getElem?_getD]
theorem inn_snoc (a y : Int) : ∀ (g acc : List Int) (i : Nat), i + g.length ≤ acc.length → inn (acc ++ [y]) i a g = inn acc i a g ++ [y]
  | [], _, _, _ => rfl
  | b :: g, acc, i, h => by
    rw [List.length_cons] at h
    rw [inn, inn, addAt_snoc (by omega), inn_snoc a y g _ _ (by rw [addAt_len]; omega)]
theorem out_snoc (g : List Int) (y : Int) : ∀ (f acc : List Int) (i : Nat), f = [] ∨ i + f.length + g.length ≤ acc.length + 1 → out (acc ++ [y]) i g f = out acc i g f ++ [y]
  | [], _, _, _ => rfl
  | a :: f, acc, i, h => by
    rcases h with h | h
    · cases h
    rw [List.length_cons] at h
    rw [out, out, inn_snoc a y g _ _ (by omega), out_snoc g y f _ _ (.inr (by rw [inn_len]; omega))]
def mulZ (f g : List Int) : List Int := trimZ (out (List.replicate (f.length + g.length) 0) 0 g f)
theorem mulZ_nil_r (f : List Int) : mulZ f [] = [] := by
  have h : ∀ (f : List Int) (acc : List Int) (i : Nat), out acc i [] f = acc := by
    intro f
    induction f with
    | nil => intro _ _; rfl
    | cons a f ih => intro acc i; rw [out, ih]; rfl
  unfold mulZ
  rw [h]
  generalize f.length + ([] : List Int).length = n
  induction n with
  | zero => rfl
  | succ n ih => rw [List.replicate_succ', trimZ_snoc0, ih]
theorem mulZ_nil_l (g : List Int) : mulZ [] g = [] := by
  unfold mulZ
  show trimZ (List.replicate _ 0) = []
  generalize ([] : List Int).length + g.length = n
  induction n with
  | zero => rfl
  | succ n ih => rw [List.replicate_succ', trimZ_snoc0, ih]
theorem mulZ_short {f g : List Int} (hf : f ≠ []) (hg : g ≠ []) : mulZ f g = trimZ (out (List.replicate (f.length + g.length - 1) 0) 0 g f) := by
  have h1 : 0 < f.length := List.length_pos_iff.mpr hf
  unfold mulZ
  rw [show f.length + g.length = (f.length + g.length - 1) + 1 by omega, List.replicate_succ', out_snoc _ _ _ _ _ (.inr (by rw [List.length_replicate]; omega)), trimZ_snoc0, Nat.add_sub_cancel]
def big (n : Int) : Prop := n.natAbs < 2 ^ 60000000
theorem big_mul {i j : Int} (hi : big i) (hj : big j) : IntMulOk i j := mulB 60000000 60000000 hi hj (by decide)
theorem big_of {i : Int} {n : Nat} (h : i.natAbs < 2 ^ n) (hn : n ≤ 60000000) : big i := Nat.lt_of_lt_of_le h (Nat.pow_le_pow_right (by decide) hn)
end AM
namespace AM
open PySem PySem.Spec PyProof.Rows L2
def R_trim : List PyData → Res → Prop := fun ds r => ∃ (d : PyData) (ns : List Int), ds = [d] ∧ sqOf d = some (ns.map .int) ∧ ns.length < 100000 ∧ r = .ok (.tuple ((trimZ ns).map .int))
def R_add : List PyData → Res → Prop := fun ds r => ∃ f g : List Int, ds = [.tuple (f.map .int), .tuple (g.map .int)] ∧ f.length ≤ 500 ∧ g.length ≤ 500 ∧ r = .ok (.tuple ((addZ f g).map .int))
def R_mul : List PyData → Res → Prop := fun ds r => ∃ f g : List Int, ds = [.tuple (f.map .int), .tuple (g.map .int)] ∧ f.length ≤ 500 ∧ g.length ≤ 500 ∧ (∀ n ∈ f, big n) ∧ (∀ n ∈ g, big n) ∧ r = .ok (.tuple ((mulZ f g).map .int))
theorem atI_nat {ns : List Int} {i : Nat} {n : Int} (h : ns[i]? = some n) : atI (ns.map PyData.int) (i : Int) = some (.int n) := by
  have hi := (List.getElem?_eq_some_iff.mp h).1
  unfold atI
  rw [ixN_pos (by omega) (by rw [List.length_map]; omega)]
  show (ns.map PyData.int)[((i : Int)).toNat]? = _
  rw [Int.toNat_natCast, List.getElem?_map, h]; rfl
theorem take_snoc {ns : List Int} {i : Nat} {n : Int} (h : ns[i]? = some n) : ns.take (i + 1) = ns.take i ++ [n] := by rw [List.take_add_one, h]; rfl
def addP : PyData → PyData
  | .tuple [.int a, .int b] => .int (a + b)
  | d => d
theorem zip_add (f g : List Int) : (zipD (f.map .int) (g.map .int)).map addP = (List.zipWith (· + ·) f g).map .int := by
  induction f generalizing g with
  | nil => rfl
  | cons a f ih =>
    cases g with
    | nil => rfl
    | cons b g =>
      show _ :: _ = _ :: _
      rw [← ih g]; rfl
end AM

set_option Elab.async false
set_option linter.all false
set_option maxRecDepth 100000
set_option maxHeartbeats 4000000
namespace AM
open PySem PySem.Spec PyProof.Rows L2
def ItT (K : PySem.W.Frag) (a : Addr) : It :=
  ⟨fun i H => ∃ (us : List V) (v : V), SqT K H a us ∧ us[i]? = some v, fun i H v H' => ∃ T z, v = .ref T ∧ H T = none ∧ H' = upd H T (.tup [.int (i : Nat), z]) ∧ ∀ us, SqT K H a us → us[i]? = some z, fun i H => ∃ us : List V, SqT K H a us ∧ us.length ≤ i⟩
theorem apart_it {h : Heap} {it a : Addr} {i : Nat} {us : Array Value} (h1 : h.IsTupleIter it a i) (h2 : h.IsTuple a us) : a ≠ it := fun z => by
  obtain ⟨o, ho, hc, _⟩ := h1
  obtain ⟨o2, ho2, hc2, _⟩ := h2
  rw [z, ho] at ho2
  cases ho2
  rw [hc] at hc2
  exact absurd hc2 (by decide)
theorem apart_en {h : Heap} {e it a : Addr} {i : Int} {old : Value} {us : Array Value} (h1 : IsEnum h e it i old) (h2 : h.IsTuple a us) : a ≠ e := fun z => by
  obtain ⟨o2, ho2, hc2, _⟩ := h2
  have h1 : h.get? e = _ := h1
  rw [z, h1] at ho2
  cases ho2
  exact absurd (show Value.type "enumerate" = Value.type "tuple" from hc2) (by decide)
theorem turn_enT {P : Program} {w : World} {K : PySem.W.Frag} {elts : List Expr} {kk : Nat} {tpos : Pos} (a e it : Addr) :
    Turn P w K (.Tuple elts kk tpos) (ItT K a) [e, it] e (fun i h => (∃ old, IsEnum h e it ((i : Nat) : Int) old) ∧ h.IsTupleIter it a i ∧ e ≠ it) where
  mem := List.mem_cons_self
  obj := fun i h ⟨⟨old, he⟩, ⟨o, ho, _, hd⟩, _⟩ b hb => by
    rcases List.mem_cons.mp hb with z | z
    · subst z; exact ⟨_, he, fun v q => nomatch q⟩
    · rw [List.mem_singleton] at z
      subst z; exact ⟨o, ho, fun v q => by rw [hd] at q; cases q⟩
  keep := fun i h h' ⟨⟨old, he⟩, hi, hne⟩ k => ⟨⟨old, k e List.mem_cons_self _ he⟩, hi.at fun o q => k it (List.mem_cons_of_mem _ List.mem_cons_self) o q, hne⟩
  item := by
    intro X eP ew eK hcal i pins s σ H E I hf ⟨⟨old, he⟩, hit, hne⟩ ⟨us, v, hq, hv⟩
    subst eP ew eK
    obtain ⟨its, rv, p, _⟩ := I.tuple hq
    obtain ⟨u, hu, ru⟩ := rv.get hv
    have ltE : e < s.heap.objs.size := Heap.lt_size he
    have ltI : it < s.heap.objs.size := by obtain ⟨_, q, _⟩ := hit; exact Heap.lt_size q
    have nI := apart_it hit p
    have nE := apart_en he p
    have hlt : i < its.toArray.size := by
      have := (List.getElem?_eq_some_iff.mp hu).1
      simpa using this
    refine wpAny_pyNext_enum_itemD (PySem.Draws.tuple (show X.A.in1.handled = none from I.ok.hd hcal) it a nI its.toArray) he ⟨hit, p⟩ hlt hne (fun z => ?_) fun x h' tk hx ho hst hT hsz hk => ?_
    · rcases List.mem_cons.mp z with z | z
      · exact hne z
      · rw [List.mem_singleton] at z; exact nE z.symm
    have ex : x = u := by
      have hx : its.toArray[i]? = some x := hx
      rw [List.getElem?_toArray, hu] at hx
      exact (Option.some.inj hx).symm
    subst ex
    refine ⟨_, rfl, wpAny_letOwnedTupleGo_enum (s := { s with heap := h', toks := tk + 1 }) ho fun h2 he2 sb => ?_⟩
    have keep2 : ∀ b, b ≠ e → h2.get? b = h'.get? b := fun b hb => sb.2 b hb
    have hT2 : h2.get? s.heap.objs.size = some { cls := .type "tuple", data := .seq #[.int i tk, x] } := (keep2 _ (Nat.ne_of_gt ltE)).trans hT
    have okT : ObjOk X.prog X.w (upd H s.heap.objs.size (.tup [.int (i : Nat), v])) h2 s.heap.objs.size (.tup [.int (i : Nat), v]) :=
      ⟨(by decide : 2 ≤ sizeLine), [.int i tk, x], .cons ⟨_, rfl⟩ (.cons ru .nil), ⟨_, hT2, rfl, _, rfl⟩⟩
    have J : Inv X pins σ (upd H s.heap.objs.size (.tup [.int (i : Nat), v])) { s with heap := h2, toks := tk + 1 } := I.turnedNew (ch := [e, it])
      (fun b ob hb q => (keep2 b (fun z => hb (z ▸ List.mem_cons_self))).trans (hk b ob (fun z => hb (z ▸ List.mem_cons_self)) (fun z => hb (z ▸ List.mem_cons_of_mem _ List.mem_cons_self)) q)) hf (Nat.le_refl _) okT
    refine ⟨.ref s.heap.objs.size, _, J, rfl, ⟨_, v, rfl, I.hok.fresh (Nat.le_refl _), rfl, fun ys hy => ?_⟩, ⟨⟨x, ?_⟩, hst.1.at fun o q => (keep2 it (Ne.symm hne)).trans q, hne⟩, fun b hb => ?_⟩
    · rw [I.tuple_inj hy hq]; exact hv
    · rw [show ((i + 1 : Nat) : Int) = (i : Int) + 1 by omega]; exact he2
    · have lt : b < s.heap.objs.size := by
        rcases List.mem_cons.mp hb with z | z
        · rw [z]; exact ltE
        · rw [List.mem_singleton] at z; rw [z]; exact ltI
      rw [upd_ne (Nat.ne_of_lt lt)]
      exact (hf b hb).1
  done := by
    intro X eP ew eK hcal i pins s σ H E I hf ⟨⟨old, he⟩, hit, hne⟩ ⟨us, hq, hv⟩
    subst eP ew eK
    obtain ⟨its, rv, p, _⟩ := I.tuple hq
    obtain ⟨f0, f1, f2, f3, f4, f5⟩ := hf it (List.mem_cons_of_mem _ List.mem_cons_self)
    have hd : X.A.in1.handled = none := I.ok.hd hcal
    have hz : its.toArray[i]? = none := by
      have := rv.length
      rw [List.getElem?_toArray]
      exact List.getElem?_eq_none (by omega)
    have D : Draws X.prog X.w X.A.in1 it [it, a] i (fun _ _ => False) (fun j h => j = i ∧ h.IsTupleIter it a j ∧ h.IsTuple a its.toArray) :=
      ⟨fun _ _ ⟨_, ⟨o, ho, _⟩, _⟩ => ⟨o, ho⟩, fun _ _ _ ⟨ej, h1, h2⟩ k => ⟨ej, h1.at fun o q => k it List.mem_cons_self o q, h2.at fun o q => k a (List.mem_cons_of_mem _ List.mem_cons_self) o q⟩,
        fun j _ _ _ hj ⟨ej, _⟩ _ => absurd ej (Nat.ne_of_lt hj), fun s Q E ⟨_, h1, h2⟩ hE => wpAny_nextOf_tuple_end hd h1 h2 hz hE⟩
    exact wpAny_pyNext_enum_endD D he ⟨rfl, hit, p⟩ fun h' eb => ⟨rfl, I.turned (t' := s.toks) (fun b o hb q => eb b o hb q) f0 f1 f3 f4 f5⟩
  self := fun A i s Q E ⟨⟨_, he⟩, _⟩ h => wpAny_pyIter_enum he h
theorem enum_newT (l : Addr) (us : Array Value) (n : Nat) (dd : Option Addr) (sl : Array (Option Value)) :
    Meets (Builtin.«enumerate.__new__» ⟨[.type "enumerate", .ref l], []⟩) (fun _ R s => s.heap.get? l = some { cls := .type "tuple", dict := dd, data := .seq us n, slots := sl } ∧
      R (.ok (.ret (.ref (s.heap.push { cls := .type "tuple_iterator", data := .fields #[.ref l, .int 0 0] }).objs.size)))
        { s with heap := (s.heap.push { cls := .type "tuple_iterator", data := .fields #[.ref l, .int 0 0] }).push { cls := .type "enumerate", data := .fields #[.none, .bool false, .ref s.heap.objs.size, rawInt 0, .none, .none] } }) :=
  .of_wp fun prog w A R s ⟨hl, h⟩ => by
    obtain ⟨hp, g, d, tk, os⟩ := s
    have hsub := sub_enumerate
    have hL : Heap.IsTuple (Shared.heap ⟨hp, g, d, tk, os⟩) l us := ⟨_, hl, rfl, n, rfl⟩
    wp_walk using wpAny_loadPart' hl
    refine wpAny_stack_any fun _ => wpAny_pure ?_
    split
    · rename_i c _ _ _ _ _
      cases (c == Value.type "enumerate") <;> (wp_walk using wpAny_loadPart' hl, wpAny_pyIter_tuple hL; exact ⟨_, rfl, h⟩)
    · wp_walk using wpAny_loadPart' hl, wpAny_pyIter_tuple hL
      exact ⟨_, rfl, h⟩
theorem call_enT {prog : Program} {w : World} {A : Around} {E : Value → Shared → Prop} {s : Shared} {l : Addr} {us : Array Value} {Q : Value → Shared → Prop} (hL : s.heap.IsTuple l us)
    (h : ∀ h', IsEnum h' (s.heap.objs.size + 1) s.heap.objs.size 0 .none → h'.IsTupleIter s.heap.objs.size l 0 → (∀ b o, s.heap.get? b = some o → h'.get? b = some o) → Q (.ref (s.heap.objs.size + 1)) { s with heap := h' }) :
    wpAny (model prog w) A (call (.type "enumerate") [.ref l]) Q E s := by
  obtain ⟨⟨c, dd, dt, sl⟩, hl, hc, n, hd⟩ := hL
  simp only at hc hd
  subst hc hd
  refine callType_new F.called_enumerate (by decide) (F.typeCall_enumerate_1 _) (F.newCall_enumerate_1 _) (fun obj => F.args_object_init_2 obj _) F.entry_enumerate_new (enum_newT l us n dd sl) ⟨hl, ?_⟩
  have sz : (s.heap.push { cls := .type "tuple_iterator", data := .fields #[.ref l, .int 0 0] }).objs.size = s.heap.objs.size + 1 := Heap.size_push ..
  show _ ∧ _
  rw [sz]
  have he : IsEnum ((s.heap.push { cls := .type "tuple_iterator", data := .fields #[.ref l, .int 0 0] }).push { cls := .type "enumerate", data := .fields #[.none, .bool false, .ref s.heap.objs.size, rawInt 0, .none, .none] }) (s.heap.objs.size + 1) s.heap.objs.size 0 .none := by
    have z := Heap.get?_push_size (s.heap.push { cls := .type "tuple_iterator", data := .fields #[.ref l, .int 0 0] }) (o := { cls := .type "enumerate", data := .fields #[.none, .bool false, .ref s.heap.objs.size, rawInt 0, .none, .none] }) rfl
    rw [sz] at z; exact z
  exact ⟨⟨_, he, rfl⟩, h _ he ⟨_, Heap.get?_push_of_some _ (Heap.get?_push_size _ rfl), rfl, rfl⟩ fun b o x => Heap.get?_push_of_some _ (Heap.get?_push_of_some _ x)⟩
def iEnT (K : PySem.W.Frag) (ta : TA) : TI := fun σ H R => ta σ H fun vs H1 => ∃ a us, vs = [.ref a] ∧ SqT K H1 a us ∧ R (ItT K a) H1
theorem pi_enT {X : Cx} {e : Expr} {ta : TA} {p pos tpos : Pos} {elts : List Expr} {kk : Nat} (hg : Gl X "enumerate") (hm : X.mg "enumerate" = none) (ha : PA X [e] ta) (hs : starEach [e] X.env = [(false, eval e X.env)] := by rfl) :
    PI X (.Tuple elts kk tpos) (.Call (.Name "enumerate" p) [e] [] pos) (iEnT X.K ta) := by
  refine ⟨fun pins s σ H R I h => Call_ (ld_blt I hg hm boot_enumerate (PyProof.Rows.callWith_type1 (thn (ha.run pos pins s σ H _ I h) fun us s1 ⟨vs, H1, I1, r1, a, xs, ev, hq, q⟩ => ?_) hs rfl))⟩
  subst ev
  cases r1 with
  | cons r rr =>
    cases rr
    cases r
    obtain ⟨its, rv, p', _⟩ := I1.tuple hq
    refine call_enT p' fun h' he hit hk => wpAny_pyIter_enum he ?_
    have J : Inv X pins σ H1 { s1 with heap := h' } := I1.kept (t' := s1.toks) hk
    refine ⟨s1.heap.objs.size + 1, [s1.heap.objs.size + 1, s1.heap.objs.size], _, _, H1, rfl, J, turn_enT a (s1.heap.objs.size + 1) s1.heap.objs.size, ⟨⟨.none, he⟩, hit, Nat.succ_ne_self _⟩, fun b hb => ?_, q⟩
    have le : s1.heap.objs.size ≤ b := by
      rcases List.mem_cons.mp hb with z | z
      · rw [z]; exact Nat.le_add_right _ _
      · rw [List.mem_singleton] at z; rw [z]; exact Nat.le_refl _
    exact I1.fpOk le (I1.hok.fresh le)
section
variable {X : Cx} {F : Fx} {Γ Γ1 Γ2 : List Sl} {a b : Expr} {pos p : Pos} {K : PySem.W.Frag}
theorem itd_enT {G : Hp} {p1 : Addr} {v1 : List V} {as : List PyData} (q1 : SqT K G p1 v1) (a1 : DqAll K G v1 as) : ItD K G (ItT K p1) (enumD as) where
  go := fun i H e hi => by
    rw [enumD_len] at hi
    obtain ⟨x, hx, _⟩ := dpa_get (i := i) a1 (List.getElem?_eq_getElem hi)
    exact ⟨v1, x, sqT_mono e q1, hx⟩
  yl := fun i H G1 x H' e1 e2 hi ⟨T, x1, ex, hT, eH, f1⟩ => by
    rw [enumD_len] at hi
    obtain ⟨x, hx, dx⟩ := dpa_get (i := i) a1 (List.getElem?_eq_getElem hi)
    have h1 : x1 = x := Option.some.inj ((f1 _ (sqT_mono (e1.trans e2) q1)).symm.trans hx)
    subst h1 ex eH
    have g1 : G1 T = none := by
      cases z : G1 T with
      | none => rfl
      | some o => have := e2 T o z; rw [hT] at this; cases this
    exact ⟨_, enumD_get (List.getElem?_eq_getElem hi), .inr ⟨T, _, hT, (fun _ z => by cases z), rfl, .tup (SqT.of upd_same) (.cons (.int _) (.cons (dp_mono (e1.trans (same_upd g1)) _ _ dx) .nil))⟩⟩
  stop := fun i H e hi => by
    rw [enumD_len] at hi
    exact ⟨v1, sqT_mono e q1, by rw [dpa_len a1]; exact hi⟩
theorem di_enumT {as : List PyData} {elts : List Expr} {kk : Nat} {tpos : Pos} (ha : PE X a (tD X.K F Γ (.dat (.tuple as)) Γ1)) (hm : X.mg "enumerate" = none) (hg : Gl X "enumerate" := by rfl) (hs : starEach [a] X.env = [(false, eval a X.env)] := by rfl) :
    PI X (.Tuple elts kk tpos) (.Call (.Name "enumerate" p) [a] [] pos) (tI X.K F Γ (enumD as) Γ1) := by
  have h := pi_enT (elts := elts) (kk := kk) (tpos := tpos) (p := p) (pos := pos) hg hm (da_cons ha da_nil hs) hs
  refine ⟨fun pins s σ H R I ⟨G, E, q⟩ => h.run pins s σ H R I ⟨G, E, fun vs H1 G1 s1 E1 v1 => ?_⟩⟩
  cases v1 with
  | cons q1 r1 =>
    cases r1
    obtain ⟨p1, vs, rfl, hq, ha⟩ := dp_tup q1
    exact ⟨p1, vs, rfl, sqT_mono E1.le hq, q _ H1 G1 s1 E1 (itd_enT hq ha)⟩
end
end AM
namespace AM
open PySem PySem.Spec PyProof.Rows L2
theorem enum_get {ns : List Int} {i : Nat} {d : PyData} (h : (enumD (ns.map .int))[i]? = some d) : ∃ n, ns[i]? = some n ∧ d = .tuple [.int (i : Int), .int n] := by
  have hi : i < ns.length := by
    have := (List.getElem?_eq_some_iff.mp h).1
    rwa [enumD_len, List.length_map] at this
  refine ⟨ns[i], List.getElem?_eq_getElem hi, ?_⟩
  have e : (ns.map PyData.int)[i]? = some (.int ns[i]) := by rw [List.getElem?_map, List.getElem?_eq_getElem hi]; rfl
  rw [enumD_get e] at h
  exact (Option.some.inj h).symm
theorem getD_of {ns : List Int} {i : Nat} (h : i < ns.length) : ns[i]? = some (ns.getD i 0) := by
  rw [List.getD_eq_getElem?_getD, List.getElem?_eq_getElem h]; rfl
theorem ixN_nat {n i : Nat} (h : i < n) : ixN n (i : Int) = some i := by rw [ixN_pos (by omega) (by omega), Int.toNat_natCast]
end AM

set_option Elab.async false
set_option linter.all false
set_option maxRecDepth 100000
set_option maxHeartbeats 4000000
namespace AM
open PySem PySem.Spec PyProof.Rows L2
section
variable {prog : Program} {w : World} {A : Around} {E : Value → Shared → Prop} {s : Shared}
theorem adj_rev (n : Nat) : Builtin.Slice.sliceAdjust none none (-1) (n : Int) = ((n : Int) - 1, -1) := rfl
theorem pla_rev (n : Nat) : Builtin.Slice.slicePlaces ((n : Int) - 1) (-1) (-1) = n := by
  unfold Builtin.Slice.slicePlaces
  rw [if_neg (by decide)]
  by_cases h : (n : Int) - 1 > -1
  · rw [if_pos h, show (-(-1) : Int) = 1 by decide, Int.ediv_one]; omega
  · rw [if_neg h]; omega
theorem app_rev {c : Addr} {x y z : Value} {n : Nat} {Q : Int × Int × Nat → Shared → Prop} (hs : s.heap.IsSliceOf c x y z) (px : IsPart x none) (py : IsPart y none) (pz : IsPart z (some (-1))) (h : Q ((n : Int) - 1, -1, n) s) :
    wpAny (model prog w) A (Builtin.Slice.sliceApplied (.ref c) (pure (n : Int))) Q E s := by
  obtain ⟨oc, hoc, _, hdc⟩ := id hs
  unfold Builtin.Slice.sliceApplied Builtin.Slice.sliceFields
  refine wpAny_bind (wpAny_bind (wpAny_field hoc hdc (x := x) rfl (wpAny_bind (wpAny_field hoc hdc (x := y) rfl (wpAny_bind (wpAny_field hoc hdc (x := z) rfl (wpAny_pure ?_)))))))
  refine wpAny_bind (HT.slicePart_ pz ?_)
  show wpAny _ _ (if ((-1 : Int) == 0) = true then _ else _) _ _ s
  rw [if_neg (by decide)]
  refine wpAny_bind (HT.slicePart_ px (wpAny_bind (HT.slicePart_ py (wpAny_bind (wpAny_pure ?_)))))
  show wpAny _ _ (pure (((n : Int) - 1), (-1 : Int), Builtin.Slice.slicePlaces ((n : Int) - 1) (-1) (-1))) _ _ s
  rw [pla_rev]
  exact wpAny_pure h
theorem pick_rev (us : Array Value) : ((List.range us.size).filterMap fun (m : Nat) => us[((us.size : Int) - 1 + (m : Int) * (-1)).toNat]?).toArray = us.toList.reverse.toArray := by
  rw [← PySem.W.krv_pick us]
  unfold slicePick
  rw [PySem.W.krv_bounds]
  show _ = ((sliceRange ((us.size : Int) - 1) (-1) (-1)).filterMap (us[·]?)).toArray
  rw [PySem.W.krv_sliceRange, List.filterMap_map]
  congr 1
  have aux : ∀ (l : List Nat), (∀ m ∈ l, m < us.size) → l.filterMap (fun (m : Nat) => us[((us.size : Int) - 1 + (m : Int) * (-1)).toNat]?) = l.filterMap ((fun x => us[x]?) ∘ fun k => us.size - 1 - k) := by
    intro l
    induction l with
    | nil => intro _; rfl
    | cons m r ih =>
      intro hl
      have h1 := hl m List.mem_cons_self
      have e : ((us.size : Int) - 1 + (m : Int) * (-1)).toNat = us.size - 1 - m := by omega
      rw [List.filterMap_cons, List.filterMap_cons, ih fun k hk => hl k (List.mem_cons_of_mem _ hk)]
      have e2 : ((fun x => us[x]?) ∘ fun k => us.size - 1 - k) m = us[((us.size : Int) - 1 + (m : Int) * (-1)).toNat]? := by rw [e]; rfl
      rw [e2]
  exact aux _ fun m hm => List.mem_range.mp hm
theorem get_rev {t c : Addr} {us : Array Value} {x y z : Value} {Q : Value → Shared → Prop} (hU : IsTup s.heap t us) (hs : s.heap.IsSliceOf c x y z) (px : IsPart x none) (py : IsPart y none) (pz : IsPart z (some (-1)))
    (h : Q (.ref s.heap.objs.size) { s with heap := s.heap.push { cls := .type "tuple", data := .seq us.toList.reverse.toArray } }) (hz : us.size ≤ sizeLine) : wpAny (model prog w) A (getItem (.ref t) (.ref c)) Q E s := by
  have fit : sizeOk (.seq us.toList.reverse.toArray) := by
    show us.toList.reverse.toArray.size ≤ sizeLine
    rw [List.size_toArray, List.length_reverse, Array.length_toList]; exact hz
  obtain ⟨oc, hoc, hcc, _⟩ := id hs
  have tS : s.TypeIs (.ref c) "slice" := ⟨oc, hoc, hcc⟩
  unfold getItem
  try with_reducible refine wpAny_holding ?_
  first | refine wpAny_bind (wpAny_pure ?_) | skip
  refine wpAny_bind (wpAny_sequenceKey hU.typeIs (by decide) ?_)
  refine wpAny_bind (wpAny_callSpecial?_slot (name := Str.ofString "__getitem__") hU.typeIs PyProof.Rows.slot_tuple_getitem (wpAny_call_entry PyProof.Rows.slot_tuple_getitem hU.typeIs PyProof.Rows.entry_tuple_getitem ?_ (PyProof.Rows.args_tuple_getitem _ _)))
  show wpAny _ _ (Builtin.Tuple.tupleItemsOf (.ref t) >>= _) _ _ _
  refine wpAny_bind (PyProof.Rows.tupleItemsOf_ hU (wpAny_bind (wpAny_typeOf tS ?_)))
  rw [if_pos (by decide)]
  refine wpAny_bind (app_rev hs px py pz ?_)
  show wpAny _ _ (if (((us.size : Int) - 1) == 0 && (-1 : Int) == 1 && us.size == us.size) = true then _ else _) _ _ s
  rw [if_neg (by rw [show ((-1 : Int) == 1) = false by decide, Bool.and_false, Bool.false_and]; decide), pick_rev]
  first
    | exact wpAny_bind (m := Builtin.Tuple.tupleExact _) (wpAny_newObj_type (wpAny_pure ⟨_, rfl, wpAny_pure h⟩) fit)
    | exact wpAny_bind (m := Builtin.Tuple.tupleExact _) (wpAny_newObj_type (wpAny_bind (wpAny_pure (wpAny_pure ⟨_, rfl, wpAny_pure h⟩))) fit)
    | exact wpAny_bind (wpAny_bind (m := Builtin.Tuple.tupleExact _) (wpAny_newObj_type (wpAny_pure (wpAny_pure ⟨_, rfl, wpAny_pure h⟩)) fit))
    | exact wpAny_bind (wpAny_bind (m := Builtin.Tuple.tupleExact _) (wpAny_newObj_type (wpAny_pure ⟨_, rfl, wpAny_pure h⟩) fit))
end
def tRevT (K : PySem.W.Frag) (te : TE) : TE := fun σ H Q => te σ H fun x H1 => ∃ a us, x = .ref a ∧ SqT K H1 a us ∧ ∀ p, H1 p = none → Q (.ref p) (upd H1 p (.tup us.reverse))
section
variable {X : Cx} {F : Fx} {W : WX} {P : Out → Prop} {Γ Γ1 Γ2 : List Sl} {a b e : Expr} {pos pos' p p2 : Pos} {rest : List Stmt}
theorem pe_revT {te : TE} {k : Nat} {p1 p2 p3 pos : Pos} (he : PE X e te) : PE X (.Subscript e (.Slice none none (some (.UnaryOp .USub (.Constant (.int 1) k p1) p2)) p3) pos) (tRevT X.K te) := by
  refine ⟨fun pins s σ H Q I h => Subscript_ (thn (he.run pins s σ H _ I h) fun v s1 ⟨x, H1, I1, r1, a, us, ex, hx, q⟩ => ?_)⟩
  subst ex
  cases r1
  have part : PO X (some (.UnaryOp .USub (.Constant (.int 1) k p1) p2)) (tPart (tUn (rU fun i => .int (-i)) (tC (.int 1)))) := po_some (pe_un un_neg pe_int)
  refine wpAny_Slice (thn (po_none.run pins s1 σ H1 (fun o J => o = none ∧ J = H1) I1 ⟨rfl, rfl⟩) fun v1 s2 ⟨o1, J1, I2, g1, e1, f1⟩ => ?_)
  subst e1 f1
  refine thn (po_none.run pins s2 σ J1 (fun o J => o = none ∧ J = J1) I2 ⟨rfl, rfl⟩) fun v2 s3 ⟨o2, J2, I3, g2, e2, f2⟩ => ?_
  subst e2 f2
  refine thn (part.run pins s3 σ J2 (fun o J => o = some (-1) ∧ J = J2) I3 ⟨1, rfl, -1, rfl, rfl, rfl⟩) fun v3 s4 ⟨o3, J3, I4, g3, e3, f3⟩ => ?_
  subst e3 f3
  have I5 : Inv X pins σ J3 { s4 with heap := s4.heap.push { cls := .type "slice", data := .fields #[v1, v2, v3] } } := I4.kept (t' := s4.toks) fun b ob q => Heap.get?_push_of_some _ q
  obtain ⟨its, r, hU, hz⟩ := I5.tuple hx
  have hl := r.length
  show wpAny (model X.prog X.w) X.A (subscriptTail e (.Slice none none (some (.UnaryOp .USub (.Constant (.int 1) k p1) p2)) p3) (.ref a) (.ref s4.heap.objs.size)) (EP X pins σ Q) X.xe _
  refine tail_any (ops := [.ref a, .ref s4.heap.objs.size]) hU.typeIs (PyProof.Rows.slot_tuple_getitem.lookup) ?_ (by with_unfolding_all rfl)
  refine get_rev hU (Heap.IsSliceOf.new _ v1 v2 v3) g1 g2 g3 ?_ (by rw [List.size_toArray]; omega)
  refine ⟨.ref _, _, I5.laid (t' := s4.toks) (o := .tup us.reverse) (fun b ob q => Heap.get?_push_of_some _ q) (Nat.le_refl _) ?_, rfl, q _ (I5.hok.fresh (Nat.le_refl _))⟩
  exact ⟨by rw [List.length_reverse]; exact hz, _, r.reverse, IsTup.new _ _⟩
theorem de_revT {k : Nat} {p1 p2 p3 pos : Pos} {ds : List PyData} (ha : PE X a (tD X.K F Γ (.dat (.tuple ds)) Γ1)) : PE X (.Subscript a (.Slice none none (some (.UnaryOp .USub (.Constant (.int 1) k p1) p2)) p3) pos) (tD X.K F Γ (.dat (.tuple ds.reverse)) Γ1) :=
  pe_imp (pe_revT ha) fun σ H Q ⟨G, E, q⟩ => ⟨G, E, fun v H1 G1 s1 E1 v1 => by
    obtain ⟨p1, vs, rfl, hq, al⟩ := dp_tup v1
    refine ⟨p1, vs, rfl, sqT_mono E1.le hq, fun l hl => ?_⟩
    have g := (E1.no hl).2.2
    exact q _ _ _ (s1.trans (Step.newDat hl g)) (E1.newDat hl) (.tup (SqT.of upd_same) (dpa_mono (same_upd g) _ _ (dpa_rev al)))⟩
theorem ds_unp (i j : Nat) {x y : Str} {d1 d2 : PyData} {px py pt : Pos} {kt : Nat} (he : PE X e (tD X.K F Γ (.dat (.tuple [d1, d2])) Γ1)) (hr : PSs X rest (tS X.K F W (st (st Γ1 i (.dat d1)) j (.dat d2)) P)) (hN : X.N.Nodup) (hi : X.N[i]? = some x := by rfl) (hj : X.N[j]? = some y := by rfl) (hx : Loc X.env.scope x := by first | exact Or.inl rfl | exact Or.inr rfl) (hy : Loc X.env.scope y := by first | exact Or.inl rfl | exact Or.inr rfl) (hc : X.calm = true := by rfl)
    (hf : X.fn x = true ∨ X.env.scope.names.lookup x = some .local := by first | exact .inl rfl | exact .inr rfl) (hf2 : X.fn y = true ∨ X.env.scope.names.lookup y = some .local := by first | exact .inl rfl | exact .inr rfl)
    (hl1 : inb Γ1 i = true := by rfl) (hl2 : inb Γ1 j = true := by rfl) (hb1 : pf F i = true := by rfl) (hb2 : pf F j = true := by rfl)
    (hs : swapsWithSole [.Tuple [.Name x px, .Name y py] kt pt] e pos.line X.env = pure false := by rfl) (hw : swappedStores [.Tuple [.Name x px, .Name y py] kt pt] e X.env = pure none := by rfl) (h1 : (assignEach [.Tuple [.Name x px, .Name y py] kt pt] X.env).map (·.2) = [assign (.Tuple [.Name x px, .Name y py] kt pt) X.env] := by rfl) :
    PSs X (.Assign [.Tuple [.Name x px, .Name y py] kt pt] e pos :: rest) (tS X.K F W Γ P) :=
  ds_seq (ps_imp (ps_asg he (pg_tgt (tgt_pair i j) (pt_pair i j hN hi hj hx hy hc hf hf2)) hs hw h1) fun D σ H ⟨G, E, q, _⟩ => ⟨G, E, fun v H1 G1 s1 E1 v1 => ⟨G1, _, Γ1, _, ⟨d1, d2, rfl, rfl, hl1, hl2, hb1, hb2⟩, E1, v1, fun σ' H' G' sg E' => q _ σ' H' G' hr (s1.g.trans sg) E'⟩⟩)
end
def topL (t b : Int) : List Int → Int × Int → Int × Int
  | [], q => q
  | a :: r, (f, p) => topL t b r (f * t + a * p, p * b)
def topZ (f : List Int) (t b : Int) : Int := (topL t b f.reverse (0, 1)).1
theorem topL_step (t b : Int) : ∀ (l : List Int) (q : Int × Int) (i : Nat) (a : Int), l[i]? = some a → topL t b (l.take (i + 1)) q = ((topL t b (l.take i) q).1 * t + a * (topL t b (l.take i) q).2, (topL t b (l.take i) q).2 * b)
  | [], _, _, _, h => by cases h
  | c :: l, (f, p), 0, a, h => by cases h; rfl
  | c :: l, (f, p), i + 1, a, h => topL_step t b l _ i a h
theorem topL_pow (t b : Int) : ∀ (l : List Int) (q : Int × Int), (topL t b l q).2 = q.2 * b ^ l.length
  | [], q => by show q.2 = q.2 * b ^ 0; rw [Int.pow_zero, Int.mul_one]
  | a :: l, (f, p) => by
    show (topL t b l (f * t + a * p, p * b)).2 = p * b ^ (l.length + 1)
    rw [topL_pow t b l, Int.pow_succ, Int.mul_assoc, Int.mul_comm b]
def R_top : List PyData → Res → Prop := fun ds r => ∃ (f : List Int) (t b : Int), ds = [.tuple (f.map .int), .tuple [.int t, .int b]] ∧ (∀ n ∈ f, n.natAbs < 2 ^ 64) ∧ t.natAbs < 2 ^ 64 ∧ b.natAbs < 2 ^ 64 ∧ r = .ok (.int (topZ f t b))
end AM

set_option Elab.async false
set_option linter.all false
set_option maxRecDepth 100000
set_option maxHeartbeats 2000000
namespace AM
open PySem PySem.Spec PyProof.Rows L2
theorem bs {α β : Type} {m : Option α} {f : α → Option β} {v : β} (h : m.bind f = some v) : ∃ x, m = some x ∧ f x = some v := by
  cases m with
  | none => cases h
  | some x => exact ⟨x, rfl, h⟩
theorem sm {α : Type} {x y : α} (h : some x = some y) : x = y := Option.some.inj h
theorem ifT {α : Type} {k : Bool} {a b : Option α} {r : α} (h : (if k = true then a else b) = some r) (e : k = true) : a = some r := by rw [if_pos e] at h; exact h
theorem ifF {α : Type} {k : Bool} {a b : Option α} {r : α} (h : (if k = true then a else b) = some r) (e : k = false) : b = some r := by rw [if_neg (by rw [e]; decide)] at h; exact h
instance (a b : Int) : Decidable (IntMulOk a b) := inferInstanceAs (Decidable (¬ _))
def mulC (a b : Int) : Option Int := if IntMulOk a b then some (a * b) else none
def fdivC (a b : Int) : Option Int := if b ≠ 0 ∧ b.natAbs < 2 ^ 9000 then some (a.fdiv b) else none
def modC (a b : Int) : Option Int := if b ≠ 0 then some (a.fmod b) else none
def powC (a b : Int) : Option Int := if 0 ≤ b ∧ b ≤ 1000000 ∧ a.natAbs < 2 ^ 64 then some (a ^ b.toNat) else none
def setC {α : Type} (xs : List α) (i : Int) (x : α) : Option (List α) := (ixN xs.length i).map fun j => xs.set j x
def catC {α : Type} (xs ys : List α) : Option (List α) := if xs.length + ys.length ≤ 100000 then some (xs ++ ys) else none
def appC {α : Type} (xs : List α) (x : α) : Option (List α) := if xs.length < 100000 then some (xs ++ [x]) else none
def popC {α : Type} (xs : List α) : Option (List α) := if xs.isEmpty then none else some xs.dropLast
def repl {α : Type} (xs : List α) (m : Int) : List α := (List.replicate m.toNat xs).flatten
def repT {α : Type} (xs : List α) (m : Int) : Option (List α) := if xs.isEmpty = false ∧ -(2 ^ 63) ≤ m ∧ m ≤ 1000 ∧ xs.length ≤ 1000 then some (repl xs m) else none
def repL {α : Type} (xs : List α) (m : Int) : Option (List α) := if -(2 ^ 63) ≤ m ∧ m < 2 ^ 63 ∧ xs.length * m.toNat ≤ 100000 then some (repl xs m) else none
def cutZ {α : Type} (xs : List α) (lo hi : Option Int) : List α := (xs.drop (HT.sIx xs.length 0 lo)).take (HT.sIx xs.length xs.length hi - HT.sIx xs.length 0 lo)
def rngZ (lo : Int) (n : Nat) : List Int := (List.range n).map fun i : Nat => lo + (i : Int)
def rngD (lo : Int) (n : Nat) : List Int := (List.range n).map fun i : Nat => lo - (i : Int)
def rng1 (j : Int) : Option (List Int) := if -(2 ^ 62) ≤ j ∧ j < 2 ^ 62 then some (rngZ 0 j.toNat) else none
def rng2 (i j : Int) : Option (List Int) := if (-(2 ^ 62) ≤ i ∧ i < 2 ^ 62) ∧ -(2 ^ 62) ≤ j ∧ j < 2 ^ 62 then some (rngZ i (j - i).toNat) else none
def rng3 (i j : Int) : Option (List Int) := if (-(2 ^ 62) ≤ i ∧ i < 2 ^ 62) ∧ -(2 ^ 62) ≤ j ∧ j < 2 ^ 62 then some (rngD i (i - j).toNat) else none
def enumZ {α : Type} (l : List α) : List (Int × α) := (List.range l.length).zipWith (fun i x => (((i : Nat) : Int), x)) l
inductive Ctl (σ τ : Type) where
  | nx (s : σ)
  | rt (t : τ)
def forO {σ α : Type} (bd : σ → α → Option σ) : List α → σ → Option σ
  | [], s => some s
  | x :: r, s => (bd s x).bind fun s' => forO bd r s'
def forC {σ α τ : Type} (bd : σ → α → Option (Ctl σ τ)) : List α → σ → Option (Ctl σ τ)
  | [], s => some (.nx s)
  | x :: r, s => (bd s x).bind fun c => match c with
    | .nx s' => forC bd r s'
    | .rt t => some (.rt t)
inductive WhileR {σ τ : Type} (cn : σ → Option Bool) (bd : σ → Option (Ctl σ τ)) : σ → Ctl σ τ → Prop
  | stop {s : σ} : cn s = some false → WhileR cn bd s (.nx s)
  | step {s s' : σ} {r : Ctl σ τ} : cn s = some true → bd s = some (.nx s') → WhileR cn bd s' r → WhileR cn bd s r
  | ret {s : σ} {t : τ} : cn s = some true → bd s = some (.rt t) → WhileR cn bd s (.rt t)
theorem WhileR.det {σ τ : Type} {cn : σ → Option Bool} {bd : σ → Option (Ctl σ τ)} {s : σ} {r r' : Ctl σ τ} (h : WhileR cn bd s r) : WhileR cn bd s r' → r = r' := by
  induction h with
  | stop e => intro h'; cases h' with
    | stop _ => rfl
    | step e2 => rw [e] at e2; cases e2
    | ret e2 => rw [e] at e2; cases e2
  | step e b _ ih => intro h'; cases h' with
    | stop e2 => rw [e] at e2; cases e2
    | step _ b2 w => rw [b] at b2; cases b2; exact ih w
    | ret _ b2 => rw [b] at b2; cases b2
  | ret e b => intro h'; cases h' with
    | stop e2 => rw [e] at e2; cases e2
    | step _ b2 => rw [b] at b2; cases b2
    | ret _ b2 => rw [b] at b2; cases b2; rfl
open Classical in
noncomputable def whileC {σ τ : Type} (cn : σ → Option Bool) (bd : σ → Option (Ctl σ τ)) (s : σ) : Option (Ctl σ τ) := if h : ∃ r, WhileR cn bd s r then some h.choose else none
theorem whileC_iff {σ τ : Type} {cn : σ → Option Bool} {bd : σ → Option (Ctl σ τ)} {s : σ} {r : Ctl σ τ} : whileC cn bd s = some r ↔ WhileR cn bd s r := by
  unfold whileC
  constructor
  · intro h
    split at h
    · rename_i hx
      cases h
      exact hx.choose_spec
    · cases h
  · intro h
    have hx : ∃ r, WhileR cn bd s r := ⟨r, h⟩
    rw [dif_pos hx]
    exact congrArg some (hx.choose_spec.det h)
inductive WhileS {σ : Type} (cn : σ → Option Bool) (bd : σ → Option σ) : σ → σ → Prop
  | stop {s : σ} : cn s = some false → WhileS cn bd s s
  | step {s s' r : σ} : cn s = some true → bd s = some s' → WhileS cn bd s' r → WhileS cn bd s r
theorem WhileS.det {σ : Type} {cn : σ → Option Bool} {bd : σ → Option σ} {s r r' : σ} (h : WhileS cn bd s r) : WhileS cn bd s r' → r = r' := by
  induction h with
  | stop e => intro h'; cases h' with
    | stop _ => rfl
    | step e2 => rw [e] at e2; cases e2
  | step e b _ ih => intro h'; cases h' with
    | stop e2 => rw [e] at e2; cases e2
    | step _ b2 w => rw [b] at b2; cases b2; exact ih w
open Classical in
noncomputable def whileO {σ : Type} (cn : σ → Option Bool) (bd : σ → Option σ) (s : σ) : Option σ := if h : ∃ r, WhileS cn bd s r then some h.choose else none
theorem whileO_iff {σ : Type} {cn : σ → Option Bool} {bd : σ → Option σ} {s r : σ} : whileO cn bd s = some r ↔ WhileS cn bd s r := by
  unfold whileO
  constructor
  · intro h
    split at h
    · rename_i hx
      cases h
      exact hx.choose_spec
    · cases h
  · intro h
    have hx : ∃ r, WhileS cn bd s r := ⟨r, h⟩
    rw [dif_pos hx]
    exact congrArg some (hx.choose_spec.det h)
def mapO {α β : Type} (f : α → Option β) : List α → Option (List β)
  | [] => some []
  | x :: r => (f x).bind fun y => (mapO f r).bind fun ys => some (y :: ys)
def mapC {α β : Type} (f : α → Option β) (xs : List α) : Option (List β) := if xs.length < 100000 then mapO f xs else none
def filO {α β : Type} (c : α → Option Bool) (f : α → Option β) : List α → Option (List β)
  | [] => some []
  | x :: r => (c x).bind fun k => if k = true then (f x).bind fun y => (filO c f r).bind fun ys => some (y :: ys) else filO c f r
def filC {α β : Type} (c : α → Option Bool) (f : α → Option β) (xs : List α) : Option (List β) := if xs.length < 100000 then filO c f xs else none
def mapBO {α β : Type} (f : Bag → α → Option (β × Bag)) : List α → Bag → Option (List β × Bag)
  | [], b => some ([], b)
  | x :: r, b => (f b x).bind fun y => (mapBO f r y.2).bind fun ys => some (y.1 :: ys.1, ys.2)
def mapBC {α β : Type} (f : Bag → α → Option (β × Bag)) (xs : List α) (b : Bag) : Option (List β × Bag) := if xs.length < 100000 then mapBO f xs b else none
def filBO {α β : Type} (c : Bag → α → Option (Bool × Bag)) (f : Bag → α → Option (β × Bag)) : List α → Bag → Option (List β × Bag)
  | [], b => some ([], b)
  | x :: r, b => (c b x).bind fun k => if k.1 = true then (f k.2 x).bind fun y => (filBO c f r y.2).bind fun ys => some (y.1 :: ys.1, ys.2) else filBO c f r k.2
def filBC {α β : Type} (c : Bag → α → Option (Bool × Bag)) (f : Bag → α → Option (β × Bag)) (xs : List α) (b : Bag) : Option (List β × Bag) := if xs.length < 100000 then filBO c f xs b else none
def takeC (b : Bag) (m : Int) : Option (Int × Bag) := if 0 ≤ b.y ∧ b.y < 2305843009213693951 ∧ 0 ≤ b.z ∧ b.z ≤ 1000000000 ∧ 0 < m ∧ m < 2 ^ 63 then some (take b m) else none
inductive Xn where
  | NoRatio | NoPoly | NoPrime | NoElement | NoFormula | NoTree | NoText | NoName | NoRoot | NoReal | NoDivision | TooGreat | Folds | NothingBetween | NothingLeft | Ring | Full | NothingDone | RootError | NoSuch | NoValue
deriving DecidableEq
def clOf (l : List (Xn × Addr)) (n : Xn) : Addr := match l with
  | [] => 0
  | (m, a) :: r => if m = n then a else clOf r n
inductive Ex (τ : Type) where
  | ok (t : τ)
  | ex (c : Xn)
def okC {τ : Type} : Option (Ex τ) → Option τ
  | some (.ok t) => some t
  | _ => none
abbrev eT {α : Type} (e : α → PyData) (l : List α) : PyData := .tuple (l.map e)
abbrev eL {α : Type} (e : α → PyData) (l : List α) : PyData := .list (l.map e)
abbrev eP {α β : Type} (e : α → PyData) (f : β → PyData) (p : α × β) : PyData := .tuple [e p.1, f p.2]
abbrev eQ {α β γ : Type} (e : α → PyData) (f : β → PyData) (g : γ → PyData) (p : α × β × γ) : PyData := .tuple [e p.1, f p.2.1, g p.2.2]
abbrev eD (d : PyData) : PyData := d
abbrev eU (_ : Unit) : PyData := .none
def eO {α : Type} (e : α → PyData) : Option α → PyData
  | none => .none
  | some x => e x
def eS {α : Type} (e : α → PyData) (p : Bool × List α) : PyData := if p.1 = true then .list (p.2.map e) else .tuple (p.2.map e)
theorem sqS {α : Type} (e : α → PyData) (p : Bool × List α) : sqOf (eS e p) = some (p.2.map e) := by
  obtain ⟨b, l⟩ := p
  cases b <;> rfl
def eqC (a b : PyData) : Option Bool := if SeqAt.shaped a = true ∧ SeqAt.shaped b = true then some (PyData.eqv a b) else none
structure EqE {α : Type} [DecidableEq α] (e : α → PyData) : Prop where
  eq : ∀ x y, PyData.eqv (e x) (e y) = decide (x = y)
structure ShE {α : Type} (e : α → PyData) (n : Nat) : Prop where
  lay : ∀ x, (e x).canLay0 = true
  dep : ∀ x, (e x).depth ≤ n
theorem ShE.sh {α : Type} {e : α → PyData} {n : Nat} (h : ShE e n) (x : α) (hn : n ≤ 64 := by decide) : SeqAt.shaped (e x) = true := by
  unfold SeqAt.shaped
  have := h.dep x
  rw [h.lay x, decide_eq_true (show (e x).depth ≤ 64 by omega)]; rfl
theorem eqE_int : EqE PyData.int := ⟨fun x y => by simp only [PyData.eqv]; first | rfl | (simp [Bool.beq_eq_decide_eq])⟩
theorem eqE_bool : EqE PyData.bool := ⟨fun x y => by simp only [PyData.eqv]; first | rfl | (simp [Bool.beq_eq_decide_eq]) | (cases x <;> cases y <;> rfl)⟩
theorem shE_int : ShE PyData.int 0 := ⟨fun _ => rfl, fun _ => Nat.zero_le _⟩
theorem shE_bool : ShE PyData.bool 0 := ⟨fun _ => rfl, fun _ => Nat.zero_le _⟩
theorem eqvAll_E {α : Type} [DecidableEq α] {e : α → PyData} (h : EqE e) : ∀ as bs : List α, PyData.eqvAll (as.map e) (bs.map e) = decide (as = bs)
  | [], [] => by simp [PyData.eqvAll]
  | [], _ :: _ => by simp [PyData.eqvAll]
  | _ :: _, [] => by simp [PyData.eqvAll]
  | a :: as, b :: bs => by
    simp only [List.map_cons, PyData.eqvAll, h.eq, eqvAll_E h as bs, List.cons.injEq, Bool.decide_and]
theorem EqE.T {α : Type} [DecidableEq α] {e : α → PyData} (h : EqE e) : EqE (eT e) := ⟨fun x y => by rw [← eqvAll_E h]; simp [PyData.eqv, eT]⟩
theorem EqE.L {α : Type} [DecidableEq α] {e : α → PyData} (h : EqE e) : EqE (eL e) := ⟨fun x y => by rw [← eqvAll_E h]; simp [PyData.eqv, eL]⟩
theorem EqE.P {α β : Type} [DecidableEq α] [DecidableEq β] {e : α → PyData} {f : β → PyData} (h : EqE e) (h2 : EqE f) : EqE (eP e f) := ⟨fun x y => by
  simp only [eP, PyData.eqv, PyData.eqvAll, h.eq, h2.eq, Bool.and_true]
  rw [← Bool.decide_and]
  exact decide_eq_decide.mpr (by rw [Prod.ext_iff])⟩
theorem layAll_E {α : Type} {e : α → PyData} {n : Nat} (h : ShE e n) (l : List α) : PyData.canLayAll0 (l.map e) = true ∧ PyData.depthAll (l.map e) ≤ n := lay_of fun d hd => by
  obtain ⟨x, _, rfl⟩ := List.mem_map.mp hd
  exact ⟨h.lay x, h.dep x⟩
theorem ShE.T {α : Type} {e : α → PyData} {n : Nat} (h : ShE e n) : ShE (eT e) (n + 1) := ⟨fun x => by simp only [eT, PyData.canLay0]; exact (layAll_E h x).1, fun x => by simp only [eT, PyData.depth]; have := (layAll_E h x).2; omega⟩
theorem ShE.L {α : Type} {e : α → PyData} {n : Nat} (h : ShE e n) : ShE (eL e) (n + 1) := ⟨fun x => by simp only [eL, PyData.canLay0]; exact (layAll_E h x).1, fun x => by simp only [eL, PyData.depth]; have := (layAll_E h x).2; omega⟩
theorem ShE.P {α β : Type} {e : α → PyData} {f : β → PyData} {n m : Nat} (h : ShE e n) (h2 : ShE f m) : ShE (eP e f) (max n m + 1) := ⟨fun x => by simp only [eP, PyData.canLay0, PyData.canLayAll0, h.lay, h2.lay, Bool.and_true], fun x => by
  have h1 := h.dep x.1
  have h2 := h2.dep x.2
  simp only [eP, PyData.depth, PyData.depthAll]; omega⟩
end AM

set_option Elab.async false
set_option linter.all false
set_option maxRecDepth 100000
set_option maxHeartbeats 2000000
namespace AM
open PySem PySem.Spec PyProof.Rows L2
theorem atI_map {α β : Type} (f : α → β) (xs : List α) (i : Int) : atI (xs.map f) i = (atI xs i).map f := by
  unfold atI
  rw [List.length_map]
  cases ixN xs.length i with
  | none => rfl
  | some j => show (xs.map f)[j]? = (xs[j]?).map f; rw [List.getElem?_map]
theorem atI_e {α : Type} {e : α → PyData} {xs : List α} {i : Int} {x : α} (h : atI xs i = some x) : atI (xs.map e) i = some (e x) := by rw [atI_map, h]; rfl
theorem cutD_map {α : Type} (e : α → PyData) (xs : List α) (lo hi : Option Int) : cutD (xs.map e) lo hi = (cutZ xs lo hi).map e := by
  unfold cutD cutZ
  rw [List.length_map, List.map_take, List.map_drop]
theorem repl_map {α : Type} (e : α → PyData) (xs : List α) (m : Int) : (List.replicate m.toNat (xs.map e)).flatten = (repl xs m).map e := by
  unfold repl
  generalize m.toNat = n
  induction n with
  | zero => rfl
  | succ n ih => rw [List.replicate_succ, List.replicate_succ, List.flatten_cons, List.flatten_cons, List.map_append, ih]
theorem rng_map (lo : Int) (n : Nat) : rng lo n = (rngZ lo n).map .int := by unfold rng rngZ; rw [List.map_map]; rfl
theorem enumD_map {α : Type} (e : α → PyData) (l : List α) : enumD (l.map e) = (enumZ l).map (eP PyData.int e) := by
  unfold enumD enumZ
  rw [List.length_map, List.map_zipWith, List.zipWith_map_right]
theorem zipD_map {α β : Type} (e : α → PyData) (f : β → PyData) (l : List α) (m : List β) : zipD (l.map e) (m.map f) = (l.zip m).map (eP e f) := by
  unfold zipD List.zip
  rw [List.map_zipWith, List.zipWith_map]
section
variable {X : Cx} {F : Fx} {W : WX} {P : Out → Prop} {Γ Γ1 Γ2 Γ3 : List Sl} {a b c e ix o : Expr} {es : List Expr} {pos pos' p p2 p3 : Pos} {k : Nat} {rest : List Stmt} {ra rb : Rv} {i j m : Int} {α β : Type} {en : α → PyData} {em : β → PyData} {xs ys zs : List α} {x : α} {d : PyData}
theorem y_mul (ha : PE X a (tD X.K F Γ (.dat (.int i)) Γ1)) (hb : PE X b (tD X.K F Γ1 (.dat (.int j)) Γ2)) (h : mulC i j = some m) : PE X (.BinOp a .Mult b pos) (tD X.K F Γ (.dat (.int m)) Γ2) := by
  unfold mulC at h
  split at h
  · cases h; exact de_mul ha hb ‹_›
  · cases h
theorem y_fdiv (ha : PE X a (tD X.K F Γ (.dat (.int i)) Γ1)) (hb : PE X b (tD X.K F Γ1 (.dat (.int j)) Γ2)) (h : fdivC i j = some m) : PE X (.BinOp a .FloorDiv b pos) (tD X.K F Γ (.dat (.int m)) Γ2) := by
  unfold fdivC at h
  split at h
  · cases h; exact de_fdiv ha hb ‹_›
  · cases h
theorem y_mod (ha : PE X a (tD X.K F Γ (.dat (.int i)) Γ1)) (hb : PE X b (tD X.K F Γ1 (.dat (.int j)) Γ2)) (h : modC i j = some m) : PE X (.BinOp a .Mod b pos) (tD X.K F Γ (.dat (.int m)) Γ2) := by
  unfold modC at h
  split at h
  · cases h; exact de_mod ha hb ‹_›
  · cases h
theorem y_pow (ha : PE X a (tD X.K F Γ (.dat (.int i)) Γ1)) (hb : PE X b (tD X.K F Γ1 (.dat (.int j)) Γ2)) (h : powC i j = some m) : PE X (.BinOp a .Pow b pos) (tD X.K F Γ (.dat (.int m)) Γ2) := by
  unfold powC at h
  split at h
  · cases h; exact de_pow ha hb ‹_›
  · cases h
theorem y_as {v w : α} (h : PE X e (tD X.K F Γ (.dat (en v)) Γ1)) (q : v = w) : PE X e (tD X.K F Γ (.dat (en w)) Γ1) := q ▸ h
theorem y_t {v w : Bool} (h : PT X e (tDT X.K F Γ v Γ1)) (q : v = w) : PT X e (tDT X.K F Γ w Γ1) := q ▸ h
theorem y_len (ha : PE X a (tD X.K F Γ ra Γ1)) (B : Bt X.mg) (hv : ∃ d, vw Γ1 ra = some d ∧ sqOf d = some (xs.map en) := by exact ⟨_, rfl, rfl⟩) (hg : Gl X "len" := by rfl) (he : starEach [a] X.env = (false, eval a X.env) :: starEach [] X.env := by rfl) :
    PE X (.Call (.Name "len" p) [a] [] pos) (tD X.K F Γ (.dat (.int (xs.length : Int))) Γ1) := by
  obtain ⟨d, h1, h2⟩ := hv
  have := de_len (p := p) (pos := pos) ha B.len h1 h2 hg he
  rwa [List.length_map] at this
theorem y_ix (ha : PE X a (tD X.K F Γ ra Γ1)) (hb : PE X b (tD X.K F Γ1 (.dat (.int i)) Γ2)) (h : atI xs i = some x) (hv : ∃ d, vw Γ2 ra = some d ∧ sqOf d = some (xs.map en) := by exact ⟨_, rfl, rfl⟩) (hp : PlainIx b := by exact fun _ _ => rfl) :
    PE X (.Subscript a b pos) (tD X.K F Γ (.dat (en x)) Γ2) := by
  obtain ⟨d, h1, h2⟩ := hv
  exact de_ix ha hb (atI_e h) h1 h2 hp
theorem y_catT (ha : PE X a (tD X.K F Γ (.dat (.tuple (xs.map en))) Γ1)) (hb : PE X b (tD X.K F Γ1 (.dat (.tuple (ys.map en))) Γ2)) (h : catC xs ys = some zs) : PE X (.BinOp a .Add b pos) (tD X.K F Γ (.dat (.tuple (zs.map en))) Γ2) := by
  unfold catC at h
  split at h
  · cases h
    rw [List.map_append]
    exact de_catT ha hb (by rw [List.length_map, List.length_map]; assumption)
  · cases h
theorem y_catL (ha : PE X a (tD X.K F Γ ra Γ1)) (hb : PE X b (tD X.K F Γ1 rb Γ2)) (h : catC xs ys = some zs) (va : vw Γ2 ra = some (.list (xs.map en)) := by rfl) (vb : vw Γ2 rb = some (.list (ys.map en)) := by rfl) : PE X (.BinOp a .Add b pos) (tN X.K F Γ (zs.map en) Γ2) := by
  unfold catC at h
  split at h
  · cases h
    rw [List.map_append]
    exact dn_cat ha hb (by rw [List.length_map, List.length_map]; assumption) va vb
  · cases h
theorem y_repT (ha : PE X a (tD X.K F Γ (.dat (.tuple (xs.map en))) Γ1)) (hb : PE X b (tD X.K F Γ1 (.dat (.int m)) Γ2)) (h : repT xs m = some zs) : PE X (.BinOp a .Mult b pos) (tD X.K F Γ (.dat (.tuple (zs.map en))) Γ2) := by
  unfold repT at h
  split at h
  · rename_i hc
    cases h
    rw [← repl_map]
    refine de_rep ha hb (fun z => ?_) hc.2.1 hc.2.2.1 (by rw [List.length_map]; exact hc.2.2.2)
    have := hc.1
    rw [List.map_eq_nil_iff] at z
    subst z
    cases this
  · cases h
theorem y_repL (ha : PE X a (tN X.K F Γ (xs.map en) Γ1)) (hb : PE X b (tD X.K F Γ1 (.dat (.int m)) Γ1)) (h : repL xs m = some zs) : PE X (.BinOp a .Mult b pos) (tN X.K F Γ (zs.map en) Γ1) := by
  unfold repL at h
  split at h
  · rename_i hc
    cases h
    rw [← repl_map]
    exact dn_rep ha hb hc.1 hc.2.1 (by rw [List.length_map]; exact hc.2.2)
  · cases h
theorem y_tuple (ha : PE X a (tD X.K F Γ ra Γ1)) (B : Bt X.mg) (hv : ∃ d, vw Γ1 ra = some d ∧ sqOf d = some (xs.map en) := by exact ⟨_, rfl, rfl⟩) (hg : Gl X "tuple" := by rfl) (he : starEach [a] X.env = (false, eval a X.env) :: starEach [] X.env := by rfl) :
    PE X (.Call (.Name "tuple" p) [a] [] pos) (tD X.K F Γ (.dat (.tuple (xs.map en))) Γ1) := by
  obtain ⟨d, h1, h2⟩ := hv
  exact de_tuple ha B.tuple h1 h2 hg he
theorem y_list (ha : PE X a (tD X.K F Γ ra Γ1)) (B : Bt X.mg) (hv : ∃ d, vw Γ1 ra = some d ∧ sqOf d = some (xs.map en) := by exact ⟨_, rfl, rfl⟩) (hg : Gl X "list" := by rfl) (he : starEach [a] X.env = (false, eval a X.env) :: starEach [] X.env := by rfl) :
    PE X (.Call (.Name "list" p) [a] [] pos) (tN X.K F Γ (xs.map en) Γ1) := by
  obtain ⟨d, h1, h2⟩ := hv
  exact dn_list ha B.list h1 h2 hg he
theorem y_slT {lo hi : Option Expr} {l h : Option Int} (ha : PE X a (tD X.K F Γ (.dat (.tuple (xs.map en))) Γ1)) (hl : PO X lo (tDO X.K F Γ1 l Γ2)) (hh : PO X hi (tDO X.K F Γ2 h Γ3)) : PE X (.Subscript a (.Slice lo hi none p2) pos) (tD X.K F Γ (.dat (.tuple ((cutZ xs l h).map en))) Γ3) := by
  rw [← cutD_map]; exact de_slT ha hl hh
theorem y_slL {lo hi : Option Expr} {l h : Option Int} (ha : PE X a (tD X.K F Γ ra Γ1)) (hl : PO X lo (tDO X.K F Γ1 l Γ2)) (hh : PO X hi (tDO X.K F Γ2 h Γ3)) (va : vw Γ3 ra = some (.list (xs.map en)) := by rfl) : PE X (.Subscript a (.Slice lo hi none p2) pos) (tN X.K F Γ ((cutZ xs l h).map en) Γ3) := by
  rw [← cutD_map]; exact dn_slL ha hl hh va
theorem y_revT {k : Nat} {p1 p2 p3 pos : Pos} (ha : PE X a (tD X.K F Γ (.dat (.tuple (xs.map en))) Γ1)) : PE X (.Subscript a (.Slice none none (some (.UnaryOp .USub (.Constant (.int 1) k p1) p2)) p3) pos) (tD X.K F Γ (.dat (.tuple (xs.reverse.map en))) Γ1) := by
  rw [List.map_reverse]; exact de_revT ha
theorem y_revL {k : Nat} {p1 p3 : Pos} (ha : PE X a (tD X.K F Γ ra Γ1)) (va : vw Γ1 ra = some (.list (xs.map en)) := by rfl) : PE X (.Subscript a (.Slice none none (some (.UnaryOp .USub (.Constant (.int 1) k p1) p2)) p3) pos) (tN X.K F Γ (xs.reverse.map en) Γ1) := by
  rw [List.map_reverse]; exact dn_revL ha va
theorem y_tup {rs : List Rv} {ds : List PyData} {x1} (h : PA X es (tDA X.K F Γ rs Γ1)) (hd : datS rs = some ds := by rfl) (hl : ds.length ≤ 100000 := by simp) : PE X (.Tuple es x1 pos) (tD X.K F Γ (.dat (.tuple ds)) Γ1) := de_tup h hl hd
theorem y_lst {rs : List Rv} {ds : List PyData} (h : PA X es (tDA X.K F Γ rs Γ1)) (hd : datS rs = some ds := by rfl) (hl : ds.length ≤ 100000 := by simp) : PE X (.List es pos) (tN X.K F Γ ds Γ1) := dn_lst h hl hd
theorem y_eqD [DecidableEq α] {n : Nat} {x y : α} (E : EqE en) (S : ShE en n) (hr : Room k X.A) (ha : PE X a (tD X.K F Γ ra Γ1)) (hb : PE X b (tD X.K F Γ1 rb Γ2)) (va : vw Γ2 ra = some (en x) := by rfl) (vb : vw Γ2 rb = some (en y) := by rfl) (hn : n ≤ 64 := by decide) : PE X (.Compare a [.Eq] [b] pos) (tD X.K F Γ (.dat (.bool (decide (x = y)))) Γ2) := by
  rw [← E.eq]; exact de_eqD hr ha hb (S.sh x hn) (S.sh y hn) va vb
theorem y_neD [DecidableEq α] {n : Nat} {x y : α} (E : EqE en) (S : ShE en n) (hr : Room k X.A) (ha : PE X a (tD X.K F Γ ra Γ1)) (hb : PE X b (tD X.K F Γ1 rb Γ2)) (va : vw Γ2 ra = some (en x) := by rfl) (vb : vw Γ2 rb = some (en y) := by rfl) (hn : n ≤ 64 := by decide) : PE X (.Compare a [.NotEq] [b] pos) (tD X.K F Γ (.dat (.bool (!decide (x = y)))) Γ2) := by
  rw [← E.eq]; exact de_neD hr ha hb (S.sh x hn) (S.sh y hn) va vb
theorem y_teqD [DecidableEq α] {n : Nat} {x y : α} (E : EqE en) (S : ShE en n) (hr : Room k X.A) (ha : PE X a (tD X.K F Γ ra Γ1)) (hb : PE X b (tD X.K F Γ1 rb Γ2)) (va : vw Γ2 ra = some (en x) := by rfl) (vb : vw Γ2 rb = some (en y) := by rfl) (hn : n ≤ 64 := by decide) : PT X (.Compare a [.Eq] [b] pos) (tDT X.K F Γ (decide (x = y)) Γ2) := by
  rw [← E.eq]; exact dt_eqD hr ha hb (S.sh x hn) (S.sh y hn) va vb
theorem y_tneD [DecidableEq α] {n : Nat} {x y : α} (E : EqE en) (S : ShE en n) (hr : Room k X.A) (ha : PE X a (tD X.K F Γ ra Γ1)) (hb : PE X b (tD X.K F Γ1 rb Γ2)) (va : vw Γ2 ra = some (en x) := by rfl) (vb : vw Γ2 rb = some (en y) := by rfl) (hn : n ≤ 64 := by decide) : PT X (.Compare a [.NotEq] [b] pos) (tDT X.K F Γ (!decide (x = y)) Γ2) := by
  rw [← E.eq]; exact dt_neD hr ha hb (S.sh x hn) (S.sh y hn) va vb
theorem y_eqQ {da db : PyData} {k' : Bool} (hr : Room k X.A) (ha : PE X a (tD X.K F Γ ra Γ1)) (hb : PE X b (tD X.K F Γ1 rb Γ2)) (h : eqC da db = some k') (va : vw Γ2 ra = some da := by rfl) (vb : vw Γ2 rb = some db := by rfl) : PE X (.Compare a [.Eq] [b] pos) (tD X.K F Γ (.dat (.bool k')) Γ2) := by
  unfold eqC at h; split at h
  · rename_i hc; cases h; exact de_eqD hr ha hb hc.1 hc.2 va vb
  · cases h
theorem y_neQ {da db : PyData} {k' : Bool} (hr : Room k X.A) (ha : PE X a (tD X.K F Γ ra Γ1)) (hb : PE X b (tD X.K F Γ1 rb Γ2)) (h : eqC da db = some k') (va : vw Γ2 ra = some da := by rfl) (vb : vw Γ2 rb = some db := by rfl) : PE X (.Compare a [.NotEq] [b] pos) (tD X.K F Γ (.dat (.bool (!k'))) Γ2) := by
  unfold eqC at h; split at h
  · rename_i hc; cases h; exact de_neD hr ha hb hc.1 hc.2 va vb
  · cases h
theorem y_teqQ {da db : PyData} {k' : Bool} (hr : Room k X.A) (ha : PE X a (tD X.K F Γ ra Γ1)) (hb : PE X b (tD X.K F Γ1 rb Γ2)) (h : eqC da db = some k') (va : vw Γ2 ra = some da := by rfl) (vb : vw Γ2 rb = some db := by rfl) : PT X (.Compare a [.Eq] [b] pos) (tDT X.K F Γ k' Γ2) := by
  unfold eqC at h; split at h
  · rename_i hc; cases h; exact dt_eqD hr ha hb hc.1 hc.2 va vb
  · cases h
theorem y_tneQ {da db : PyData} {k' : Bool} (hr : Room k X.A) (ha : PE X a (tD X.K F Γ ra Γ1)) (hb : PE X b (tD X.K F Γ1 rb Γ2)) (h : eqC da db = some k') (va : vw Γ2 ra = some da := by rfl) (vb : vw Γ2 rb = some db := by rfl) : PT X (.Compare a [.NotEq] [b] pos) (tDT X.K F Γ (!k') Γ2) := by
  unfold eqC at h; split at h
  · rename_i hc; cases h; exact dt_neD hr ha hb hc.1 hc.2 va vb
  · cases h
theorem y_wand {v w : Bool} {rs : List Expr} (ha : PT X a (tDT X.K F Γ v Γ1)) (hb : v = true → PW X (.BoolOp .And (b :: rs) pos) (tDT X.K F Γ1 w Γ2)) (hf : v = false → w = false ∧ Γ1 = Γ2) : PW X (.BoolOp .And (a :: b :: rs) pos) (tDT X.K F Γ w Γ2) := by
  cases v with
  | true => exact dw_andT ha (hb rfl)
  | false =>
    obtain ⟨rfl, rfl⟩ := hf rfl
    exact dw_andF ha
theorem y_wor {v w : Bool} {rs : List Expr} (ha : PT X a (tDT X.K F Γ v Γ1)) (hb : v = false → PW X (.BoolOp .Or (b :: rs) pos) (tDT X.K F Γ1 w Γ2)) (hf : v = true → w = true ∧ Γ1 = Γ2) : PW X (.BoolOp .Or (a :: b :: rs) pos) (tDT X.K F Γ w Γ2) := by
  cases v with
  | false => exact dw_orF ha (hb rfl)
  | true =>
    obtain ⟨rfl, rfl⟩ := hf rfl
    exact dw_orT ha
theorem y_and {v w : Bool} {rs : List Expr} (ha : PE X a (tD X.K F Γ (.dat (.bool v)) Γ)) (hb : v = true → PE X (.BoolOp .And (b :: rs) pos) (tD X.K F Γ (.dat (.bool w)) Γ)) (hf : v = false → w = false) : PE X (.BoolOp .And (a :: b :: rs) pos) (tD X.K F Γ (.dat (.bool w)) Γ) := by
  have h := de_and (l := w) ha hb
  have e : (v && w) = w := by
    cases v with
    | true => rfl
    | false => rw [hf rfl]; rfl
  rwa [e] at h
theorem y_or {v w : Bool} {rs : List Expr} (ha : PE X a (tD X.K F Γ (.dat (.bool v)) Γ)) (hb : v = false → PE X (.BoolOp .Or (b :: rs) pos) (tD X.K F Γ (.dat (.bool w)) Γ)) (hf : v = true → w = true) : PE X (.BoolOp .Or (a :: b :: rs) pos) (tD X.K F Γ (.dat (.bool w)) Γ) := by
  have h := de_or (l := w) ha hb
  have e : (v || w) = w := by
    cases v with
    | false => rfl
    | true => rw [hf rfl]; rfl
  rwa [e] at h
theorem ds_fall {Γ' : List Sl} (h : P (.nx Γ')) (e : Γ = Γ') : PSs X [] (tS X.K F W Γ P) := e ▸ ds_nil h
theorem y_set (s : Nat) {y : Str} {v w : α} (q : v = w) (he : PE X e (tD X.K F Γ (.dat (en v)) Γ1)) (hr : PSs X rest (tS X.K F W (st Γ1 s (.dat (en w))) P)) (hN : X.N.Nodup) (hi : X.N[s]? = some y := by rfl) (hx : Loc X.env.scope y := by first | exact Or.inl rfl | exact Or.inr rfl) (hl : inb Γ1 s = true := by rfl) (hb : pf F s = true := by rfl)
    (hs : swapsWith e (some (.Name y pos')) pos.line X.env = pure false := by rfl) (hf : X.fn y = true ∨ X.env.scope.names.lookup y = some .local := by first | exact .inl rfl | exact .inr rfl | assumption) :
    PSs X (.Assign [.Name y pos'] e pos :: rest) (tS X.K F W Γ P) := ds_set s (q ▸ he) hr hN hi hx hl hb hs hf
theorem y_setN (s : Nat) {y : Str} {v w : List α} (q : v = w) (he : PE X e (tN X.K F Γ (v.map en) Γ1)) (hr : PSs X rest (tS X.K F W (st Γ1 s (.own (w.map en))) P)) (hN : X.N.Nodup) (hi : X.N[s]? = some y := by rfl) (hx : Loc X.env.scope y := by first | exact Or.inl rfl | exact Or.inr rfl) (hl : inb Γ1 s = true := by rfl) (hb : pf F s = true := by rfl)
    (hs : swapsWith e (some (.Name y pos')) pos.line X.env = pure false := by rfl) (hf : X.fn y = true ∨ X.env.scope.names.lookup y = some .local := by first | exact .inl rfl | exact .inr rfl | assumption) :
    PSs X (.Assign [.Name y pos'] e pos :: rest) (tS X.K F W Γ P) := ds_setN s (q ▸ he) hr hN hi hx hl hb hs hf
theorem y_item (s : Nat) {x : α} (he : PE X e (tD X.K F Γ (.dat (en x)) Γ1)) (ho : PE X o (tD X.K F Γ1 (.al s) Γ2)) (hi : PE X ix (tD X.K F Γ2 (.dat (.int i)) Γ3)) (h : setC xs i x = some ys)
    (hr : PSs X rest (tS X.K F W (st Γ3 s (.own (ys.map en))) P)) (hl : lk Γ3 s = .own (xs.map en) := by rfl)
    (ha : ∀ v, assign (.Subscript o ix pos') X.env v = (do
      let ov ← holding [v] (eval o X.env)
      let iv ← holding [v, ov] (eval ix X.env)
      standAt pos'
      holding [v, ov, iv] (setItem ov iv v)
      release [v, ov, iv] []) := by intro _; rfl)
    (hs : swapsWithSole [.Subscript o ix pos'] e pos.line X.env = pure false := by rfl) (hw : swappedStores [.Subscript o ix pos'] e X.env = pure none := by rfl)
    (h1 : (assignEach [.Subscript o ix pos'] X.env).map (·.2) = [assign (.Subscript o ix pos') X.env] := by rfl) :
    PSs X (.Assign [.Subscript o ix pos'] e pos :: rest) (tS X.K F W Γ P) := by
  unfold setC at h
  obtain ⟨j, h2, h3⟩ := Option.map_eq_some_iff.mp h
  refine ds_item (xs := xs.map en) he ho hi (by rw [List.length_map]; exact h2) ?_ hl ha hs hw h1
  rw [← List.map_set, h3]; exact hr
theorem y_append (s : Nat) {x : α} {apos epos : Pos} (ho : PE X o (tD X.K F Γ (.al s) Γ1)) (he : PE X e (tD X.K F Γ1 (.dat (en x)) Γ2)) (h : appC xs x = some ys)
    (hr : PSs X rest (tS X.K F W (st Γ2 s (.own (ys.map en))) P)) {zs : List PyData} (hl1 : lk Γ1 s = .own zs := by rfl) (hl : lk Γ2 s = .own (xs.map en) := by rfl)
    (hp : PE X (.Call (.Attribute o "append" apos) [e] [] epos) (tBM X.K "list" rAppend (tD X.K F Γ (.al s) Γ1) (tCons (tD X.K F Γ1 (.dat (en x)) Γ2) tNil))) (hs : swapsWith (.Call (.Attribute o "append" apos) [e] [] epos) none pos.line X.env = pure false := by rfl) :
    PSs X (.Expr (.Call (.Attribute o "append" apos) [e] [] epos) pos :: rest) (tS X.K F W Γ P) := by
  unfold appC at h
  split at h
  · cases h
    refine ds_append (xs := xs.map en) ho he (by rw [List.length_map]; assumption) ?_ hl1 hl hp hs
    rw [List.map_append] at hr; exact hr
  · cases h
theorem y_pop (s : Nat) {apos epos : Pos} (ho : PE X o (tD X.K F Γ (.al s) Γ1)) (h : popC xs = some ys)
    (hr : PSs X rest (tS X.K F W (st Γ1 s (.own (ys.map en))) P)) (hl : lk Γ1 s = .own (xs.map en) := by rfl)
    (hp : PE X (.Call (.Attribute o "pop" apos) [] [] epos) (tBM0 X.K "list" rPop (tD X.K F Γ (.al s) Γ1))) (hs : swapsWith (.Call (.Attribute o "pop" apos) [] [] epos) none pos.line X.env = pure false := by rfl) :
    PSs X (.Expr (.Call (.Attribute o "pop" apos) [] [] epos) pos :: rest) (tS X.K F W Γ P) := by
  unfold popC at h
  split at h
  · cases h
  · rename_i hne
    cases h
    refine ds_pop (xs := xs.map en) ho (fun z => ?_) ?_ hl hp hs
    · rw [List.map_eq_nil_iff] at z; subst z; exact hne rfl
    · have : (xs.dropLast).map en = (xs.map en).dropLast := by rw [List.map_dropLast]
      rw [← this]; exact hr
theorem forO_step {σ : Type} {bd : σ → α → Option σ} : ∀ {xs : List α} {s r : σ}, forO bd xs s = some r → ∀ (i : Nat) x, xs[i]? = some x → ∃ u v, forO bd (xs.take i) s = some u ∧ bd u x = some v ∧ forO bd (xs.take (i + 1)) s = some v
  | [], _, _, _, i, x, hx => by simp at hx
  | y :: ys, s, r, h, 0, x, hx => by
    obtain ⟨s', h1, h2⟩ := bs h
    have hx : y = x := by simpa using hx
    subst hx
    refine ⟨s, s', rfl, h1, ?_⟩
    show (bd s y).bind _ = _
    rw [h1]; rfl
  | y :: ys, s, r, h, i + 1, x, hx => by
    obtain ⟨s', h1, h2⟩ := bs h
    obtain ⟨u, v, h3, h4, h5⟩ := forO_step h2 i x (by simpa using hx)
    refine ⟨u, v, ?_, h4, ?_⟩
    · show (bd s y).bind _ = _
      rw [h1]; exact h3
    · show (bd s y).bind _ = _
      rw [h1]; exact h5
theorem y_for {σ : Type} {tg iter : Expr} {body : List Stmt} {A : PyData → List Sl → List Sl → Prop} (mk : σ → List Sl) (bd : σ → α → Option σ) {s0 s1 : σ} (h : forO bd xs s0 = some s1) (hi : PI X tg iter (tI X.K F Γ (xs.map en) (mk s0))) (hg : PG X tg (tT X.K F A)) (hp : PassesOwn (model X.prog X.w) X.A X.env X.xe)
    (turn : ∀ s x s', bd s x = some s' → ∃ Γt, A (en x) (mk s) Γt ∧ PSs X body (tS X.K F W Γt (loopP X F W rest P (fun Γ => Γ = mk s'))))
    (done : PSs X rest (tS X.K F W (mk s1) P)) (hc : X.calm = true := by rfl) (hs : ∀ x, foldedSetIterable iter X.env x = pure x := by intro _; rfl) :
    PSs X (.For tg iter body [] pos :: rest) (tS X.K F W Γ P) := by
  refine ds_for (fun i Γ => ∃ s, forO bd (xs.take i) s0 = some s ∧ Γ = mk s) hi hg ⟨s0, rfl, rfl⟩ hp (fun i d Γ hd ⟨s, e1, e2⟩ => ?_) (fun Γ ⟨s, e1, e2⟩ => ?_) hc hs
  · rw [List.getElem?_map] at hd
    obtain ⟨x, hx, rfl⟩ := Option.map_eq_some_iff.mp hd
    obtain ⟨u, v, h3, h4, h5⟩ := forO_step h i x hx
    rw [h3] at e1
    cases e1
    subst e2
    obtain ⟨Γt, hA, hb⟩ := turn _ x v h4
    refine ⟨Γt, hA, ds_imp hb fun o ho => ?_⟩
    cases o with
    | nx Γ => exact ⟨v, h5, ho⟩
    | ct Γ => exact ⟨v, h5, ho⟩
    | _ => exact ho
  · rw [List.length_map, List.take_length, h] at e1
    cases e1
    subst e2
    exact done
theorem forC_step {σ τ : Type} {bd : σ → α → Option (Ctl σ τ)} : ∀ {xs : List α} {s : σ} {r : Ctl σ τ}, forC bd xs s = some r → ∀ (i : Nat) x u, xs[i]? = some x → forC bd (xs.take i) s = some (.nx u) → ∃ v, bd u x = some v ∧ forC bd (xs.take (i + 1)) s = some v ∧ (∀ t, v = .rt t → r = .rt t)
  | [], _, _, _, i, x, _, hx, _ => by simp at hx
  | y :: ys, s, r, h, 0, x, u, hx, h0 => by
    obtain ⟨c, h1, h2⟩ := bs h
    have hx : y = x := by simpa using hx
    subst hx
    cases h0
    refine ⟨c, h1, ?_, fun t e => ?_⟩
    · show (bd s y).bind _ = _
      rw [h1]; cases c <;> rfl
    · subst e; exact (Option.some.inj h2).symm
  | y :: ys, s, r, h, i + 1, x, u, hx, h0 => by
    obtain ⟨c, h1, h2⟩ := bs h
    have h0 : (bd s y).bind _ = _ := h0
    rw [h1] at h0
    cases c with
    | rt t => cases h0
    | nx s' =>
      obtain ⟨v, h3, h4, h5⟩ := forC_step h2 i x u (by simpa using hx) h0
      refine ⟨v, h3, ?_, h5⟩
      show (bd s y).bind _ = _
      rw [h1]; exact h4
theorem y_forC {σ τ : Type} {tg iter : Expr} {body : List Stmt} {A : PyData → List Sl → List Sl → Prop} (mk : σ → List Sl) (bd : σ → α → Option (Ctl σ τ)) {s0 : σ} {r : Ctl σ τ} (h : forC bd xs s0 = some r) (hi : PI X tg iter (tI X.K F Γ (xs.map en) (mk s0))) (hg : PG X tg (tT X.K F A)) (hp : PassesOwn (model X.prog X.w) X.A X.env X.xe)
    (turn : ∀ s x v, bd s x = some v → (∀ t, v = .rt t → r = .rt t) → ∃ Γt, A (en x) (mk s) Γt ∧ PSs X body (tS X.K F W Γt (loopP X F W rest P (fun Γ => ∃ s', v = .nx s' ∧ Γ = mk s'))))
    (done : ∀ s1, r = .nx s1 → PSs X rest (tS X.K F W (mk s1) P)) (hc : X.calm = true := by rfl) (hs : ∀ x, foldedSetIterable iter X.env x = pure x := by intro _; rfl) :
    PSs X (.For tg iter body [] pos :: rest) (tS X.K F W Γ P) := by
  refine ds_for (fun i Γ => ∃ s, forC bd (xs.take i) s0 = some (.nx s) ∧ Γ = mk s) hi hg ⟨s0, rfl, rfl⟩ hp (fun i d Γ hd ⟨s, e1, e2⟩ => ?_) (fun Γ ⟨s, e1, e2⟩ => ?_) hc hs
  · rw [List.getElem?_map] at hd
    obtain ⟨x, hx, rfl⟩ := Option.map_eq_some_iff.mp hd
    obtain ⟨v, h3, h4, h5⟩ := forC_step h i x s hx e1
    subst e2
    obtain ⟨Γt, hA, hb⟩ := turn s x v h3 h5
    refine ⟨Γt, hA, ds_imp hb fun o ho => ?_⟩
    cases o with
    | nx Γ => obtain ⟨s', q1, q2⟩ := ho; subst q1; exact ⟨s', h4, q2⟩
    | ct Γ => obtain ⟨s', q1, q2⟩ := ho; subst q1; exact ⟨s', h4, q2⟩
    | _ => exact ho
  · rw [List.length_map, List.take_length, h] at e1
    cases e1
    subst e2
    exact done s rfl
def whN {σ τ : Type} (cn : σ → Option Bool) (bd : σ → Option (Ctl σ τ)) (r : Ctl σ τ) : Nat → σ → Prop
  | 0, s => (cn s = some false ∧ r = .nx s) ∨ (cn s = some true ∧ ∃ t, bd s = some (.rt t) ∧ r = .rt t)
  | n + 1, s => cn s = some true ∧ ∃ s', bd s = some (.nx s') ∧ whN cn bd r n s'
theorem whN_of {σ τ : Type} {cn : σ → Option Bool} {bd : σ → Option (Ctl σ τ)} {s : σ} {r : Ctl σ τ} (h : WhileR cn bd s r) : ∃ n, whN cn bd r n s := by
  induction h with
  | stop e => exact ⟨0, .inl ⟨e, rfl⟩⟩
  | step e b _ ih => obtain ⟨n, h⟩ := ih; exact ⟨n + 1, e, _, b, h⟩
  | ret e b => exact ⟨0, .inr ⟨e, _, b, rfl⟩⟩
theorem y_whileC {σ τ : Type} {body : List Stmt} (mk : σ → List Sl) (cn : σ → Option Bool) (bd : σ → Option (Ctl σ τ)) {s0 : σ} {r : Ctl σ τ} (h : whileC cn bd s0 = some r) (hp : PassesOwn (model X.prog X.w) X.A X.env X.xe)
    (test : ∀ s v, cn s = some v → PT X c (tDT X.K F (mk s) v (mk s)))
    (turn : ∀ s v, bd s = some v → (∀ t, v = .rt t → r = .rt t) → PSs X body (tS X.K F W (mk s) (loopP X F W rest P (fun Γ => ∃ s', v = .nx s' ∧ Γ = mk s'))))
    (done : ∀ s1, r = .nx s1 → PSs X rest (tS X.K F W (mk s1) P)) : PSs X (.While c body [] pos :: rest) (tS X.K F W (mk s0) P) := by
  obtain ⟨n, hn⟩ := whN_of (whileC_iff.mp h)
  refine ds_while (fun m Γ => ∃ s, whN cn bd r m s ∧ Γ = mk s) n ⟨s0, hn, rfl⟩ hp (fun m Γ ⟨s, e1, e2⟩ => ?_)
  subst e2
  cases m with
  | zero =>
    rcases e1 with ⟨e, er⟩ | ⟨e, t, e2, er⟩
    · exact ⟨false, _, test s _ e, fun z => (by cases z), fun _ => done s er⟩
    · refine ⟨true, _, test s _ e, fun _ => ds_imp (turn s _ e2 fun t' z => (by cases z; exact er)) fun o ho => ?_, fun z => (by cases z)⟩
      cases o with
      | nx Γ => obtain ⟨s', q1, q2⟩ := ho; cases q1
      | ct Γ => obtain ⟨s', q1, q2⟩ := ho; cases q1
      | _ => exact ho
  | succ m =>
    obtain ⟨e, s', e2, e3⟩ := e1
    refine ⟨true, _, test s _ e, fun _ => ds_imp (turn s _ e2 fun t' z => (by cases z)) fun o ho => ?_, fun z => (by cases z)⟩
    cases o with
    | nx Γ => obtain ⟨s2, q1, q2⟩ := ho; cases q1; exact ⟨m, Nat.lt_succ_self _, s', e3, q2⟩
    | ct Γ => obtain ⟨s2, q1, q2⟩ := ho; cases q1; exact ⟨m, Nat.lt_succ_self _, s', e3, q2⟩
    | _ => exact ho
def whM {σ : Type} (cn : σ → Option Bool) (bd : σ → Option σ) (r : σ) : Nat → σ → Prop
  | 0, s => cn s = some false ∧ r = s
  | n + 1, s => cn s = some true ∧ ∃ s', bd s = some s' ∧ whM cn bd r n s'
theorem whM_of {σ : Type} {cn : σ → Option Bool} {bd : σ → Option σ} {s r : σ} (h : WhileS cn bd s r) : ∃ n, whM cn bd r n s := by
  induction h with
  | stop e => exact ⟨0, e, rfl⟩
  | step e b _ ih => obtain ⟨n, h⟩ := ih; exact ⟨n + 1, e, _, b, h⟩
theorem y_while {σ : Type} {body : List Stmt} (mk : σ → List Sl) (cn : σ → Option Bool) (bd : σ → Option σ) {s0 r : σ} (h : whileO cn bd s0 = some r) (hp : PassesOwn (model X.prog X.w) X.A X.env X.xe)
    (test : ∀ s v, cn s = some v → PT X c (tDT X.K F (mk s) v (mk s)))
    (turn : ∀ s s', bd s = some s' → PSs X body (tS X.K F W (mk s) (loopP X F W rest P (fun Γ => Γ = mk s'))))
    (done : PSs X rest (tS X.K F W (mk r) P)) : PSs X (.While c body [] pos :: rest) (tS X.K F W (mk s0) P) := by
  obtain ⟨n, hn⟩ := whM_of (whileO_iff.mp h)
  refine ds_while (fun m Γ => ∃ s, whM cn bd r m s ∧ Γ = mk s) n ⟨s0, hn, rfl⟩ hp (fun m Γ ⟨s, e1, e2⟩ => ?_)
  subst e2
  cases m with
  | zero =>
    obtain ⟨e, er⟩ := e1
    subst er
    exact ⟨false, _, test _ _ e, fun z => (by cases z), fun _ => done⟩
  | succ m =>
    obtain ⟨e, s', e2, e3⟩ := e1
    refine ⟨true, _, test s _ e, fun _ => ds_imp (turn s _ e2) fun o ho => ?_, fun z => (by cases z)⟩
    cases o with
    | nx Γ => exact ⟨m, Nat.lt_succ_self _, s', e3, ho⟩
    | ct Γ => exact ⟨m, Nat.lt_succ_self _, s', e3, ho⟩
    | _ => exact ho
theorem yi_tup {tg : Expr} (h : PE X e (tD X.K F Γ (.dat (.tuple (xs.map en))) Γ1)) : PI X tg e (tI X.K F Γ (xs.map en) Γ1) := di_tup h
theorem yi_list {tg : Expr} (h : PE X e (tD X.K F Γ (.dat (.list (xs.map en))) Γ1)) : PI X tg e (tI X.K F Γ (xs.map en) Γ1) := di_list h
theorem yi_range1 {tg : Expr} {rs : List Int} (ha : PE X a (tD X.K F Γ (.dat (.int j)) Γ1)) (B : Bt X.mg) (h : rng1 j = some rs) (hg : Gl X "range" := by rfl) (hs : starEach [a] X.env = [(false, eval a X.env)] := by rfl) : PI X tg (.Call (.Name "range" p) [a] [] pos) (tI X.K F Γ (rs.map .int) Γ1) := by
  unfold rng1 at h; split at h
  · rename_i hc; cases h; rw [← rng_map]; exact di_range1 (da_cons ha da_nil hs) B.range hc.1 hc.2 hg hs
  · cases h
theorem yi_range2 {tg : Expr} {rs : List Int} (ha : PE X a (tD X.K F Γ (.dat (.int i)) Γ1)) (hb : PE X b (tD X.K F Γ1 (.dat (.int j)) Γ2)) (B : Bt X.mg) (h : rng2 i j = some rs) (hg : Gl X "range" := by rfl) (hs : starEach [a, b] X.env = [(false, eval a X.env), (false, eval b X.env)] := by rfl) (hs2 : starEach [b] X.env = [(false, eval b X.env)] := by rfl) : PI X tg (.Call (.Name "range" p) [a, b] [] pos) (tI X.K F Γ (rs.map .int) Γ2) := by
  unfold rng2 at h; split at h
  · rename_i hc; cases h; rw [← rng_map]; exact di_range2 (da_cons ha (da_cons hb da_nil hs2) (by rw [hs, hs2])) B.range ⟨hc.1.1, hc.1.2, hc.2.1, hc.2.2⟩ hg hs hs2
  · cases h
theorem itd_rngD {K : PySem.W.Frag} {G : Hp} (lo : Int) (n : Nat) : ItD K G (Itc lo (-1) n) ((rngD lo n).map .int) where
  go := fun i H e hi => by rw [List.length_map, rngD, List.length_map, List.length_range] at hi; exact hi
  yl := fun i H G1 x H' e1 e2 hi ⟨rfl, y⟩ => by
    rw [List.length_map, rngD, List.length_map, List.length_range] at hi
    subst y
    refine ⟨.int (lo - (i : Int)), by simp [rngD, hi], .inl ⟨rfl, ?_⟩⟩
    rw [show lo + ((i : Nat) : Int) * (-1) = lo - (i : Int) by omega]
    exact .int _
  stop := fun i H e hi => by rw [List.length_map, rngD, List.length_map, List.length_range] at hi; exact hi
theorem yi_range3 {tg : Expr} {rs : List Int} (ha : PE X a (tD X.K F Γ (.dat (.int i)) Γ1)) (hb : PE X b (tD X.K F Γ1 (.dat (.int j)) Γ2)) (hc' : PE X c (tD X.K F Γ2 (.dat (.int (-1))) Γ3)) (B : Bt X.mg) (h : rng3 i j = some rs) (hg : Gl X "range" := by rfl)
    (hs : starEach [a, b, c] X.env = (false, eval a X.env) :: starEach [b, c] X.env := by rfl) (hs2 : starEach [b, c] X.env = (false, eval b X.env) :: starEach [c] X.env := by rfl) (hs3 : starEach [c] X.env = (false, eval c X.env) :: starEach [] X.env := by rfl) (hpl : (backTo pos (starEach [b, c] X.env)).any (·.1) = false := by rfl) : PI X tg (.Call (.Name "range" p) [a, b, c] [] pos) (tI X.K F Γ (rs.map .int) Γ3) := by
  unfold rng3 at h; split at h
  · rename_i hc
    cases h
    have h1 := pi_range3 (tg := tg) (p := p) (pos := pos) hg B.range (da_cons ha (da_cons hb (da_cons hc' da_nil hs3) hs2) hs) hs hpl
    refine ⟨fun pins s σ H R I ⟨G, E, q⟩ => h1.run pins s σ H R I ⟨G, E, fun vs H1 G1 s1 E1 v1 => ?_⟩⟩
    obtain ⟨u, v, w, rfl, h1, h2, h3⟩ := paired3 v1
    exact ⟨i, j, -1, (i - j).toNat, by rw [dp_int h1, dp_int h2, dp_int h3], RgC.neg hc.1.1 hc.1.2 hc.2.1 hc.2.2, q _ H1 G1 s1 E1 (itd_rngD i _)⟩
  · cases h
theorem yi_enT {elts : List Expr} {kk : Nat} {tpos : Pos} (ha : PE X a (tD X.K F Γ (.dat (.tuple (xs.map en))) Γ1)) (B : Bt X.mg) (hg : Gl X "enumerate" := by rfl) (hs : starEach [a] X.env = [(false, eval a X.env)] := by rfl) :
    PI X (.Tuple elts kk tpos) (.Call (.Name "enumerate" p) [a] [] pos) (tI X.K F Γ ((enumZ xs).map (eP PyData.int en)) Γ1) := by rw [← enumD_map]; exact di_enumT ha B.enum hg hs
theorem yi_enL {elts : List Expr} {kk : Nat} {tpos : Pos} (ha : PE X a (tD X.K F Γ (.dat (.list (xs.map en))) Γ1)) (B : Bt X.mg) (hg : Gl X "enumerate" := by rfl) (hs : starEach [a] X.env = [(false, eval a X.env)] := by rfl) :
    PI X (.Tuple elts kk tpos) (.Call (.Name "enumerate" p) [a] [] pos) (tI X.K F Γ ((enumZ xs).map (eP PyData.int en)) Γ1) := by rw [← enumD_map]; exact di_enumL ha B.enum hg hs
theorem yi_zipT {ys : List β} {elts : List Expr} {kk : Nat} {tpos : Pos} (ha : PE X a (tD X.K F Γ (.dat (.tuple (xs.map en))) Γ1)) (hb : PE X b (tD X.K F Γ1 (.dat (.tuple (ys.map em))) Γ2)) (B : Bt X.mg) (hg : Gl X "zip" := by rfl) (hs : starEach [a, b] X.env = (false, eval a X.env) :: starEach [b] X.env := by rfl) (hs2 : starEach [b] X.env = (false, eval b X.env) :: starEach [] X.env := by rfl) (hpl : (backTo pos (starEach [b] X.env)).any (·.1) = false := by rfl) :
    PI X (.Tuple elts kk tpos) (.Call (.Name "zip" p) [a, b] [] pos) (tI X.K F Γ ((xs.zip ys).map (eP en em)) Γ2) := by rw [← zipD_map]; exact di_zipT (da_cons ha (da_cons hb da_nil hs2) hs) B.zip hg hs hpl
theorem yi_zipL {ys : List β} {elts : List Expr} {kk : Nat} {tpos : Pos} (ha : PE X a (tD X.K F Γ (.dat (.list (xs.map en))) Γ1)) (hb : PE X b (tD X.K F Γ1 (.dat (.list (ys.map em))) Γ2)) (B : Bt X.mg) (hg : Gl X "zip" := by rfl) (hs : starEach [a, b] X.env = (false, eval a X.env) :: starEach [b] X.env := by rfl) (hs2 : starEach [b] X.env = (false, eval b X.env) :: starEach [] X.env := by rfl) (hpl : (backTo pos (starEach [b] X.env)).any (·.1) = false := by rfl) :
    PI X (.Tuple elts kk tpos) (.Call (.Name "zip" p) [a, b] [] pos) (tI X.K F Γ ((xs.zip ys).map (eP en em)) Γ2) := by rw [← zipD_map]; exact di_zipL (da_cons ha (da_cons hb da_nil hs2) hs) B.zip hg hs hpl
end
section
variable {X : Cx} {F : Fx} {Γ Γ1 Γ2 : List Sl} {a b c e elt iter tg : Expr} {pos p p2 : Pos} {scope : Scope} {own : List (Str × Nat)} {g : TG} {A : PyData → List Sl → List Sl → Prop} {α β : Type} {en : α → PyData} {em : β → PyData} {xs : List α} {ys : List β}
theorem mapO_step {f : α → Option β} : ∀ {xs : List α} {ys : List β}, mapO f xs = some ys → ys.length = xs.length ∧ ∀ (i : Nat) x, xs[i]? = some x → ∃ y, f x = some y ∧ ys[i]? = some y
  | [], ys, h => by cases h; exact ⟨rfl, fun i x hx => by simp at hx⟩
  | z :: zs, ys, h => by
    obtain ⟨y, h1, h⟩ := bs h
    obtain ⟨ws, h2, h3⟩ := bs h
    cases h3
    obtain ⟨l, ih⟩ := mapO_step h2
    refine ⟨by simp [l], fun i x hx => ?_⟩
    cases i with
    | zero => simp at hx; subst hx; exact ⟨y, h1, rfl⟩
    | succ i => simpa using ih i x (by simpa using hx)
theorem y_lc (f : α → Option β) (h : mapC f xs = some ys) (hi : PI X tg iter (tI X.K F Γ (xs.map en) Γ1)) (T : Tgt X.K F g (own.map (·.2)) A) (hN : X.N.Nodup) (ok : BlkOk X.N X.env.scope scope own)
    (hg : ∀ (s : Shared) (H : Hp) (C : Addr) (cl : List (Str × Addr)) (fp : List Addr), PG (X.blk s H scope (compEnvC scope cl C X.env) fp) tg g)
    (turn : ∀ x y, f x = some y → ∃ Γt, A (en x) (wpG Γ1 (own.map (·.2))) Γt ∧ wpG Γt (own.map (·.2)) = wpG Γ1 (own.map (·.2)) ∧ ∀ (s : Shared) (H : Hp) (C : Addr) (cl : List (Str × Addr)) (fp : List Addr), PE (X.blk s H scope (compEnvC scope cl C X.env) fp) elt (tD X.K F Γt (.dat (em y)) Γt))
    (hpf : (own.map (·.2)).all (pf F) = true := by rfl) :
    LcR X F Γ elt tg iter [] scope own (ys.map em) (wpG Γ1 (own.map (·.2))) := by
  unfold mapC at h
  split at h
  · rename_i hz
    obtain ⟨hl, st⟩ := mapO_step h
    refine lr_lc (own := own) (A := A) (fun j acc Γ => acc = (ys.take j).map em ∧ Γ = wpG Γ1 (own.map (·.2))) hi T hN ok hg ⟨by simp, rfl⟩ (by rw [List.length_map]; exact hz) (fun j d acc Γ hd ⟨e1, e2⟩ => ?_) (fun acc Γ ⟨e1, e2⟩ => ⟨by rw [e1, List.length_map, ← hl, List.take_length], e2⟩) hpf
    subst e1 e2
    rw [List.getElem?_map] at hd
    obtain ⟨x, hx, rfl⟩ := Option.map_eq_some_iff.mp hd
    obtain ⟨y, hy, hy2⟩ := st j x hx
    obtain ⟨Γt, hA, hw, he⟩ := turn x y hy
    refine ⟨Γt, true, hA, fun _ _ _ _ _ => pts_no, fun h => (by cases h), fun _ => ⟨em y, Γt, he, ?_, hw⟩⟩
    rw [List.take_add_one, hy2, List.map_append]; rfl
  · cases h
theorem filO_app {c : α → Option Bool} {f : α → Option β} : ∀ {us vs : List α}, filO c f (us ++ vs) = (filO c f us).bind fun a => (filO c f vs).bind fun b => some (a ++ b)
  | [], vs => by show _ = Option.bind (some []) _; simp
  | u :: us, vs => by
    simp only [List.cons_append, filO]
    cases c u with
    | none => rfl
    | some k =>
      cases k with
      | false => simp only [Option.bind_some, Bool.false_eq_true, if_false]; exact filO_app
      | true =>
        simp only [Option.bind_some, if_true]
        cases f u with
        | none => rfl
        | some y =>
          simp only [Option.bind_some]
          rw [filO_app]
          cases filO c f us with
          | none => rfl
          | some z =>
            simp only [Option.bind_some]
            cases filO c f vs with
            | none => rfl
            | some w => rfl
theorem filO_some {c : α → Option Bool} {f : α → Option β} {us vs : List α} {r : List β} (h : filO c f (us ++ vs) = some r) : ∃ a, filO c f us = some a := by
  rw [filO_app] at h
  obtain ⟨a, h1, _⟩ := bs h
  exact ⟨a, h1⟩
theorem y_lcf (q : α → Option Bool) (f : α → Option β) (h : filC q f xs = some ys) (hi : PI X tg iter (tI X.K F Γ (xs.map en) Γ1)) (T : Tgt X.K F g (own.map (·.2)) A) (hN : X.N.Nodup) (ok : BlkOk X.N X.env.scope scope own)
    (hg : ∀ (s : Shared) (H : Hp) (C : Addr) (cl : List (Str × Addr)) (fp : List Addr), PG (X.blk s H scope (compEnvC scope cl C X.env) fp) tg g)
    (turn : ∀ x k, q x = some k → ∃ Γt, A (en x) (wpG Γ1 (own.map (·.2))) Γt ∧ wpG Γt (own.map (·.2)) = wpG Γ1 (own.map (·.2)) ∧ (∀ (s : Shared) (H : Hp) (C : Addr) (cl : List (Str × Addr)) (fp : List Addr), PT (X.blk s H scope (compEnvC scope cl C X.env) fp) c (tDT X.K F Γt k Γt)) ∧
      ∀ y, k = true → f x = some y → ∀ (s : Shared) (H : Hp) (C : Addr) (cl : List (Str × Addr)) (fp : List Addr), PE (X.blk s H scope (compEnvC scope cl C X.env) fp) elt (tD X.K F Γt (.dat (em y)) Γt))
    (hpf : (own.map (·.2)).all (pf F) = true := by rfl) :
    LcR X F Γ elt tg iter [c] scope own (ys.map em) (wpG Γ1 (own.map (·.2))) := by
  unfold filC at h
  split at h
  · rename_i hz
    refine lr_lc (own := own) (A := A) (fun j acc Γ => (∃ as, filO q f (xs.take j) = some as ∧ acc = as.map em) ∧ Γ = wpG Γ1 (own.map (·.2))) hi T hN ok hg ⟨⟨[], rfl, rfl⟩, rfl⟩ (by rw [List.length_map]; exact hz) (fun j d acc Γ hd ⟨⟨as, e0, e1⟩, e2⟩ => ?_) (fun acc Γ ⟨⟨as, e0, e1⟩, e2⟩ => ?_) hpf
    · subst e1 e2
      rw [List.getElem?_map] at hd
      obtain ⟨x, hx, rfl⟩ := Option.map_eq_some_iff.mp hd
      have e3 : xs.take (j + 1) = xs.take j ++ [x] := by rw [List.take_add_one, hx]; rfl
      obtain ⟨w, hw⟩ := filO_some (us := xs.take (j + 1)) (vs := xs.drop (j + 1)) (by rw [List.take_append_drop]; exact h)
      have hw' := hw
      rw [e3, filO_app, e0] at hw
      simp only [Option.bind_some] at hw
      obtain ⟨z, hz2, hw⟩ := bs hw
      obtain ⟨k, hk, hz2⟩ := bs hz2
      obtain ⟨Γt, hA, hwp, ht, he⟩ := turn x k hk
      refine ⟨Γt, k, hA, fun s H C cl fp => pts_if (ht s H C cl fp), fun h0 => ⟨⟨as, ?_, rfl⟩, hwp⟩, fun h1 => ?_⟩
      · subst h0
        cases hz2
        rw [List.append_nil] at hw
        cases hw
        exact hw'
      · subst h1
        obtain ⟨y, hy, hz3⟩ := bs hz2
        cases hz3
        refine ⟨em y, Γt, he y rfl hy, ⟨as ++ [y], ?_, by rw [List.map_append]; rfl⟩, hwp⟩
        cases hw
        exact hw'
    · rw [List.length_map, List.take_length, h] at e0
      cases e0
      exact ⟨e1, e2⟩
  · cases h
end
end AM
namespace AM
open PySem PySem.Spec PyProof.Rows L2
section
variable {X : Cx} {F : Fx} {Γ Γ1 Γ2 : List Sl} {a b c e elt iter tg : Expr} {pos p p2 : Pos} {scope : Scope} {own : List (Str × Nat)} {g : TG} {A : PyData → List Sl → List Sl → Prop} {α β : Type} {en : α → PyData} {em : β → PyData} {xs : List α} {ys : List β}
theorem mapBO_app {f : Bag → α → Option (β × Bag)} : ∀ {us vs : List α} {b : Bag}, mapBO f (us ++ vs) b = (mapBO f us b).bind fun a => (mapBO f vs a.2).bind fun c => some (a.1 ++ c.1, c.2)
  | [], vs, b => by
    show _ = Option.bind (some ([], b)) _
    simp
    cases mapBO f vs b <;> rfl
  | u :: us, vs, b => by
    simp only [List.cons_append, mapBO]
    cases f b u with
    | none => rfl
    | some y =>
      simp only [Option.bind_some]
      rw [mapBO_app]
      cases mapBO f us y.2 with
      | none => rfl
      | some z =>
        simp only [Option.bind_some]
        cases mapBO f vs z.2 with
        | none => rfl
        | some w => rfl
theorem y_lcB (f : Bag → α → Option (β × Bag)) (Γb : Bag → List Sl) {b0 : Bag} {r : List β × Bag} (h : mapBC f xs b0 = some r) (hi : PI X tg iter (tI X.K F Γ (xs.map en) Γ1)) (T : Tgt X.K F g (own.map (·.2)) A) (hN : X.N.Nodup) (ok : BlkOk X.N X.env.scope scope own)
    (hg : ∀ (s : Shared) (H : Hp) (C : Addr) (cl : List (Str × Addr)) (fp : List Addr), PG (X.blk s H scope (compEnvC scope cl C X.env) fp) tg g)
    (turn : ∀ b x y, f b x = some y → ∃ Γt Γu, A (en x) (Γb b) Γt ∧ wpG Γu (own.map (·.2)) = Γb y.2 ∧ ∀ (s : Shared) (H : Hp) (C : Addr) (cl : List (Str × Addr)) (fp : List Addr), PE (X.blk s H scope (compEnvC scope cl C X.env) fp) elt (tD X.K F Γt (.dat (em y.1)) Γu))
    (h1 : wpG Γ1 (own.map (·.2)) = Γb b0 := by rfl) (hpf : (own.map (·.2)).all (pf F) = true := by rfl) :
    LcR X F Γ elt tg iter [] scope own (r.1.map em) (Γb r.2) := by
  unfold mapBC at h
  split at h
  · rename_i hz
    refine lr_lc (own := own) (A := A) (fun j acc Γ => ∃ q, mapBO f (xs.take j) b0 = some q ∧ acc = q.1.map em ∧ Γ = Γb q.2) hi T hN ok hg ⟨([], b0), rfl, rfl, h1⟩ (by rw [List.length_map]; exact hz) (fun j d acc Γ hd ⟨q, e0, e1, e2⟩ => ?_) (fun acc Γ ⟨q, e0, e1, e2⟩ => ?_) hpf
    · subst e1 e2
      rw [List.getElem?_map] at hd
      obtain ⟨x, hx, rfl⟩ := Option.map_eq_some_iff.mp hd
      have e3 : xs.take (j + 1) = xs.take j ++ [x] := by rw [List.take_add_one, hx]; rfl
      have h' := h
      rw [← List.take_append_drop (j + 1) xs, mapBO_app] at h'
      obtain ⟨w, hw, _⟩ := bs h'
      have hw' := hw
      rw [e3, mapBO_app, e0] at hw
      simp only [Option.bind_some] at hw
      obtain ⟨z, hz2, hw⟩ := bs hw
      obtain ⟨y, hy, hz2⟩ := bs hz2
      obtain ⟨v, hv, hz3⟩ := bs hz2
      cases hv
      cases hz3
      obtain ⟨Γt, Γu, hA, hwp, he⟩ := turn q.2 x y hy
      cases hw
      exact ⟨Γt, true, hA, fun _ _ _ _ _ => pts_no, fun h => (by cases h), fun _ => ⟨em y.1, Γu, he, _, hw', by rw [List.map_append]; rfl, hwp⟩⟩
    · rw [List.length_map, List.take_length, h] at e0
      cases e0
      exact ⟨e1, e2⟩
  · cases h
theorem filBO_app {q : Bag → α → Option (Bool × Bag)} {f : Bag → α → Option (β × Bag)} : ∀ {us vs : List α} {b : Bag}, filBO q f (us ++ vs) b = (filBO q f us b).bind fun a => (filBO q f vs a.2).bind fun c => some (a.1 ++ c.1, c.2)
  | [], vs, b => by
    show _ = Option.bind (some ([], b)) _
    simp
    cases filBO q f vs b <;> rfl
  | u :: us, vs, b => by
    simp only [List.cons_append, filBO]
    cases q b u with
    | none => rfl
    | some k =>
      simp only [Option.bind_some]
      obtain ⟨k, b2⟩ := k
      cases k with
      | false => simp only [Bool.false_eq_true, if_false]; exact filBO_app
      | true =>
        simp only [if_true]
        cases f b2 u with
        | none => rfl
        | some y =>
          simp only [Option.bind_some]
          rw [filBO_app]
          cases filBO q f us y.2 with
          | none => rfl
          | some z =>
            simp only [Option.bind_some]
            cases filBO q f vs z.2 with
            | none => rfl
            | some w => rfl
end
section
variable {α β γ δ ζ τ : Type}
def toRes (cl : Xn → Addr) (e : τ → PyData) : Ex τ → Res
  | .ok t => .ok (e t)
  | .ex c => .ex (cl c)
def RY1 (e1 : α → PyData) (e : τ → PyData) (y : α → Option τ) : List PyData → Res → Prop := fun ds r => ∃ a v, ds = [e1 a] ∧ y a = some v ∧ r = .ok (e v)
def RY2 (e1 : α → PyData) (e2 : β → PyData) (e : τ → PyData) (y : α → β → Option τ) : List PyData → Res → Prop := fun ds r => ∃ a b v, ds = [e1 a, e2 b] ∧ y a b = some v ∧ r = .ok (e v)
def RY3 (e1 : α → PyData) (e2 : β → PyData) (e3 : γ → PyData) (e : τ → PyData) (y : α → β → γ → Option τ) : List PyData → Res → Prop := fun ds r => ∃ a b c v, ds = [e1 a, e2 b, e3 c] ∧ y a b c = some v ∧ r = .ok (e v)
def RY4 (e1 : α → PyData) (e2 : β → PyData) (e3 : γ → PyData) (e4 : δ → PyData) (e : τ → PyData) (y : α → β → γ → δ → Option τ) : List PyData → Res → Prop := fun ds r => ∃ a b c d v, ds = [e1 a, e2 b, e3 c, e4 d] ∧ y a b c d = some v ∧ r = .ok (e v)
def RX1 (cl : Xn → Addr) (e1 : α → PyData) (e : τ → PyData) (y : α → Option (Ex τ)) : List PyData → Res → Prop := fun ds r => ∃ a v, ds = [e1 a] ∧ y a = some v ∧ r = toRes cl e v
def RX2 (cl : Xn → Addr) (e1 : α → PyData) (e2 : β → PyData) (e : τ → PyData) (y : α → β → Option (Ex τ)) : List PyData → Res → Prop := fun ds r => ∃ a b v, ds = [e1 a, e2 b] ∧ y a b = some v ∧ r = toRes cl e v
def RX3 (cl : Xn → Addr) (e1 : α → PyData) (e2 : β → PyData) (e3 : γ → PyData) (e : τ → PyData) (y : α → β → γ → Option (Ex τ)) : List PyData → Res → Prop := fun ds r => ∃ a b c v, ds = [e1 a, e2 b, e3 c] ∧ y a b c = some v ∧ r = toRes cl e v
def RYB0 (e : τ → PyData) (y : Bag → Option (τ × Bag)) : List PyData → List PyData → PyData → List PyData → Prop := fun xs ds d xs' => ∃ b v, xs = bagD b ∧ ds = [] ∧ y b = some v ∧ d = e v.1 ∧ xs' = bagD v.2
def RYB1 (e1 : α → PyData) (e : τ → PyData) (y : Bag → α → Option (τ × Bag)) : List PyData → List PyData → PyData → List PyData → Prop := fun xs ds d xs' => ∃ b a v, xs = bagD b ∧ ds = [e1 a] ∧ y b a = some v ∧ d = e v.1 ∧ xs' = bagD v.2
def RYB2 (e1 : α → PyData) (e2 : β → PyData) (e : τ → PyData) (y : Bag → α → β → Option (τ × Bag)) : List PyData → List PyData → PyData → List PyData → Prop := fun xs ds d xs' => ∃ b a c v, xs = bagD b ∧ ds = [e1 a, e2 c] ∧ y b a c = some v ∧ d = e v.1 ∧ xs' = bagD v.2
def RYB3 (e1 : α → PyData) (e2 : β → PyData) (e3 : γ → PyData) (e : τ → PyData) (y : Bag → α → β → γ → Option (τ × Bag)) : List PyData → List PyData → PyData → List PyData → Prop := fun xs ds d xs' => ∃ b a c f v, xs = bagD b ∧ ds = [e1 a, e2 c, e3 f] ∧ y b a c f = some v ∧ d = e v.1 ∧ xs' = bagD v.2
theorem okC_some {m : Option (Ex τ)} {t : τ} (h : okC m = some t) : m = some (.ok t) := by
  unfold okC at h
  split at h
  · cases h; rfl
  · cases h
end
theorem takeC_R {b : Bag} {m : Int} {v : Int × Bag} (h : takeC b m = some v) : R_take (bagD b) [.int m] (.int v.1) (bagD v.2) := by
  unfold takeC at h
  split at h
  · rename_i hc
    cases h
    exact ⟨b, m, 1000000000, ⟨hc.1, hc.2.1, hc.2.2.1, hc.2.2.2.1⟩, by decide, hc.2.2.2.2.1, hc.2.2.2.2.2, rfl, rfl, rfl, rfl⟩
  · cases h
theorem opt_as {X : Cx} {F : Fx} {Γ Γ1 : List Sl} {e : Expr} {α : Type} {en : α → PyData} {o : Option α} {x : α} (h : PE X e (tD X.K F Γ (.dat (eO en o)) Γ1)) (q : o = some x) : PE X e (tD X.K F Γ (.dat (en x)) Γ1) := by
  subst q; exact h
theorem isNon_O {α : Type} {en : α → PyData} (hn : ∀ x, isNon (en x) = false) (o : Option α) : isNon (eO en o) = o.isNone := by
  cases o with
  | none => rfl
  | some x => exact hn x
end AM

set_option Elab.async false
set_option linter.all false
set_option maxRecDepth 100000
set_option maxHeartbeats 2000000
namespace AM
open PySem PySem.Spec PyProof.Rows L2
def lenOk : PyData → Bool
  | .tuple es => decide (es.length < 100000)
  | _ => true
theorem lenOk_t {d : PyData} (h : lenOk d = true) : ∀ es, d = .tuple es → es.length < 100000 := fun es e => by subst e; exact of_decide_eq_true h
def y_is_whole (d : PyData) : Option Bool := some (isWhole d)
def y_is_poly (d : PyData) : Option Bool := if lenOk d = true then some (isPolyD d) else none
def y_is_ratio (d : PyData) : Option Bool := some (isRatioD d)
open Classical in
noncomputable def sameC (a b : PyData) : Option Bool := if okS 12 a ∧ okS 12 b then some (sameD a b) else none
theorem sameC_R {a b : PyData} {k : Bool} (h : sameC a b = some k) : R_same 12 [a, b] (.ok (.bool k)) := by
  unfold sameC at h
  split at h
  · rename_i hc
    cases h
    exact ⟨a, b, rfl, hc.1, hc.2, rfl⟩
  · cases h
theorem sameC_refl {d : PyData} (h : pl 12 d) : sameC d d = some true := by
  unfold sameC
  rw [if_pos ⟨pl_okS h, pl_okS h⟩, sameD_refl d (pl_noDict h)]
end AM

set_option Elab.async false
set_option linter.all false
set_option maxRecDepth 100000
set_option maxHeartbeats 2000000
namespace AM
open PySem PySem.Spec PyProof.Rows L2
def askV {τ : Type} (askN : Xn → Option (Str × Str)) (e : τ → PyData) : Ex τ → Option PyData
  | .ok t => some (.tuple [.str "told", e t])
  | .ex c => (askN c).map fun p => .tuple [.str p.1, .str p.2]
section
variable {X : Cx} {F : Fx} {Γ Γ1 : List Sl} {body : Expr} {scope : Scope} {params : Arguments} {lpos pos p : Pos} {l : List (Value × List V)} {k : Nat} {d : PyData} {C : Addr} {τ : Type} {e : τ → PyData} {cl : Xn → Addr} {askN : Xn → Option (Str × Str)} {z : Ex τ}
theorem y_ask (A : AskC X F.T l) (n0 : NT F.H0) (hr : Room (k + 2) X.A) (L : LamX.LamS X.env.scope scope) (M : ∀ c p, askN c = some p → manyD X.K [.str p.1, .str p.2] l (.ref (cl c))) (hz : askV askN e z = some d)
    (hok : ∀ t, z = .ok t → ∀ (A : Around) (outer : List PySem.Env) (s : Shared) (H : Hp) (E : XK) (f c' : Addr), Room k (A.deeper (LamX.lamEnv X scope s.heap.objs.size f c')) → PE (LamX.lamCx X A outer s H E scope f c') body (tD X.K F Γ (.dat (e t)) Γ1))
    (hex : ∀ c, z = .ex c → ∀ (A : Around) (outer : List PySem.Env) (s : Shared) (H : Hp) (E : XK) (f c' : Addr), Room k (A.deeper (LamX.lamEnv X scope s.heap.objs.size f c')) → PE (LamX.lamCx X A outer s H E scope f c') body (tX X.K F (fun cls d _ H => E cls d H) Γ (cl c) Γ1))
    (hg : Gl X "_law_ask" := by rfl) (hdef : defaultsOf params X.env = ([], []) := by rfl) (hbind : ∀ (q : Str) (cl : List (Str × Addr)) (pm cv ctv : Value), bindArgs (PySem.W.kla_fn "<lambda>" q params body scope cl pm cv ctv) ⟨[], []⟩ = pure [] := by intro _ _ _ _ _; rfl) :
    PE X (.Call (.Name "_law_ask" p) [.Lambda params body scope lpos] [] pos) (tD X.K F Γ (.dat d) Γ1) := by
  cases z with
  | ok t =>
    cases hz
    exact de_ask A n0 hr L (hok t rfl) hg hdef hbind
  | ex c =>
    obtain ⟨q, hq, e⟩ := Option.map_eq_some_iff.mp hz
    subst e
    exact de_askX A n0 hr L (M c q hq) (hex c rfl) hg hdef hbind
end
def asI : PyData → Option Int
  | .int i => some i
  | _ => none
def asR : PyData → Option (Int × Int)
  | .tuple [.int a, .int b] => some (a, b)
  | _ => none
def asV : PyData → Option (List Int)
  | .tuple ds => mapO asI ds
  | _ => none
theorem asI_eq {d : PyData} {i : Int} (h : asI d = some i) : d = .int i := by
  unfold asI at h
  split at h
  · cases h; rfl
  · cases h
theorem asR_eq {d : PyData} {p : Int × Int} (h : asR d = some p) : d = eP PyData.int PyData.int p := by
  unfold asR at h
  split at h
  · cases h; rfl
  · cases h
theorem mapO_asI : ∀ {ds : List PyData} {ns : List Int}, mapO asI ds = some ns → ds = ns.map .int
  | [], ns, h => by cases h; rfl
  | d :: ds, ns, h => by
    obtain ⟨i, h1, h⟩ := bs h
    obtain ⟨ms, h2, h3⟩ := bs h
    cases h3
    rw [asI_eq h1, mapO_asI h2]; rfl
theorem asV_eq {d : PyData} {ns : List Int} (h : asV d = some ns) : d = eT PyData.int ns := by
  unfold asV at h
  split at h
  · rw [mapO_asI h]
  · cases h
theorem asV_ints (ns : List Int) : asV (eT PyData.int ns) = some ns := by
  show mapO asI (ns.map .int) = some ns
  induction ns with
  | nil => rfl
  | cons a r ih => rw [List.map_cons]; show (asI (.int a)).bind _ = _; rw [show asI (.int a) = some a from rfl]; show (mapO asI (r.map .int)).bind _ = _; rw [ih]; rfl
theorem cast_as {X : Cx} {F : Fx} {Γ Γ1 : List Sl} {e : Expr} {d d' : PyData} (h : PE X e (tD X.K F Γ (.dat d) Γ1)) (q : d = d') : PE X e (tD X.K F Γ (.dat d') Γ1) := q ▸ h
end AM
namespace AM
open PySem PySem.Spec PyProof.Rows L2
def aTrip (F : Fx) (i j l : Nat) : PyData → List Sl → List Sl → Prop := fun d Γ Γ' => ∃ d1 d2 d3, d = .tuple [d1, d2, d3] ∧ Γ' = st (st (st Γ i (.dat d1)) j (.dat d2)) l (.dat d3) ∧ (inb Γ i = true ∧ inb Γ j = true ∧ inb Γ l = true) ∧ pf F i = true ∧ pf F j = true ∧ pf F l = true
theorem tgt_trip {K : PySem.W.Frag} {F : Fx} (i j l : Nat) : Tgt K F (gTup K 3 (gCons (gName i) (gCons (gName j) (gCons (gName l) gNil)))) [i, j, l] (aTrip F i j l) := ⟨fun G H σ Γ Γ' v d Q E hd ⟨d1, d2, d3, e, e2, ⟨h1, h2, h3⟩, b1, b2, b3⟩ q => by
  subst e e2
  obtain ⟨p, vs, rfl, hq, ha⟩ := dp_tup hd
  cases ha with
  | cons a1 r1 =>
    cases r1 with
    | cons a2 r2 =>
      cases r2 with
      | cons a3 r3 =>
        cases r3
        refine ⟨p, _, rfl, sqT_mono E.le hq, rfl, _, _, rfl, _, _, rfl, _, _, rfl, rfl, ?_⟩
        have l1 : j < (st Γ i (.dat d1)).length := by rw [st_length]; exact inb_lt h2
        have l2 : l < (st (st Γ i (.dat d1)) j (.dat d2)).length := by rw [st_length, st_length]; exact inb_lt h3
        refine q _ (((E.setDat a1 (inb_lt h1) b1).setDat a2 l1 b2).setDat a3 l2 b3) (by rw [List.length_set, List.length_set, List.length_set]) (fun k hk => ?_) fun a h => own_setDat (inb_lt h1) (own_setDat l1 (own_setDat l2 h))
        rw [List.getElem?_set_ne (fun z => hk (by simp [z])), List.getElem?_set_ne (fun z => hk (by simp [z])), List.getElem?_set_ne (fun z => hk (by simp [z]))]⟩
section
variable {X : Cx} {F : Fx} {W : WX} {P : Out → Prop} {Γ Γ1 : List Sl} {e : Expr} {pos : Pos} {rest : List Stmt}
theorem pt_trip (i j l : Nat) {x y z : Str} {px py pz pt : Pos} {k : Nat} (hN : X.N.Nodup) (hi : X.N[i]? = some x := by rfl) (hj : X.N[j]? = some y := by rfl) (hl : X.N[l]? = some z := by rfl) (hx : Loc X.env.scope x := by first | exact Or.inl rfl | exact Or.inr rfl) (hy : Loc X.env.scope y := by first | exact Or.inl rfl | exact Or.inr rfl) (hz : Loc X.env.scope z := by first | exact Or.inl rfl | exact Or.inr rfl) (hc : X.calm = true := by rfl)
    (hf : X.fn x = true ∨ X.env.scope.names.lookup x = some .local := by first | exact .inl rfl | exact .inr rfl) (hf2 : X.fn y = true ∨ X.env.scope.names.lookup y = some .local := by first | exact .inl rfl | exact .inr rfl) (hf3 : X.fn z = true ∨ X.env.scope.names.lookup z = some .local := by first | exact .inl rfl | exact .inr rfl)
    (hs1 : (assignEach [.Name x px, .Name y py, .Name z pz] X.env).map (·.2) = assign (.Name x px) X.env :: (assignEach [.Name y py, .Name z pz] X.env).map (·.2) := by rfl) (hs2 : (assignEach [.Name y py, .Name z pz] X.env).map (·.2) = assign (.Name y py) X.env :: (assignEach [.Name z pz] X.env).map (·.2) := by rfl) (hs3 : (assignEach [.Name z pz] X.env).map (·.2) = assign (.Name z pz) X.env :: (assignEach [] X.env).map (·.2) := by rfl)
    (hn : (assignEach [.Name x px, .Name y py, .Name z pz] X.env).length = 3 := by rfl) (hst : (assignEach [.Name x px, .Name y py, .Name z pz] X.env).findIdx? (·.1) = none := by rfl) : PG X (.Tuple [.Name x px, .Name y py, .Name z pz] k pt) (gTup X.K 3 (gCons (gName i) (gCons (gName j) (gCons (gName l) gNil)))) :=
  pg_tup hc (pgs_cons (pg_name hN hi hx hf) (pgs_cons (pg_name hN hj hy hf2) (pgs_cons (pg_name hN hl hz hf3) pgs_nil hs3) hs2) hs1) hn hst
theorem ds_unp3 (i j l : Nat) {x y z : Str} {d1 d2 d3 : PyData} {px py pz pt : Pos} {kt : Nat} (he : PE X e (tD X.K F Γ (.dat (.tuple [d1, d2, d3])) Γ1)) (hr : PSs X rest (tS X.K F W (st (st (st Γ1 i (.dat d1)) j (.dat d2)) l (.dat d3)) P)) (hN : X.N.Nodup) (hi : X.N[i]? = some x := by rfl) (hj : X.N[j]? = some y := by rfl) (hl : X.N[l]? = some z := by rfl) (hx : Loc X.env.scope x := by first | exact Or.inl rfl | exact Or.inr rfl) (hy : Loc X.env.scope y := by first | exact Or.inl rfl | exact Or.inr rfl) (hz : Loc X.env.scope z := by first | exact Or.inl rfl | exact Or.inr rfl) (hc : X.calm = true := by rfl)
    (hf : X.fn x = true ∨ X.env.scope.names.lookup x = some .local := by first | exact .inl rfl | exact .inr rfl) (hf2 : X.fn y = true ∨ X.env.scope.names.lookup y = some .local := by first | exact .inl rfl | exact .inr rfl) (hf3 : X.fn z = true ∨ X.env.scope.names.lookup z = some .local := by first | exact .inl rfl | exact .inr rfl)
    (hl1 : inb Γ1 i = true := by rfl) (hl2 : inb Γ1 j = true := by rfl) (hl3 : inb Γ1 l = true := by rfl) (hb1 : pf F i = true := by rfl) (hb2 : pf F j = true := by rfl) (hb3 : pf F l = true := by rfl)
    (hs : swapsWithSole [.Tuple [.Name x px, .Name y py, .Name z pz] kt pt] e pos.line X.env = pure false := by rfl) (hw : swappedStores [.Tuple [.Name x px, .Name y py, .Name z pz] kt pt] e X.env = pure none := by rfl) (h1 : (assignEach [.Tuple [.Name x px, .Name y py, .Name z pz] kt pt] X.env).map (·.2) = [assign (.Tuple [.Name x px, .Name y py, .Name z pz] kt pt) X.env] := by rfl)
    (q1 : (assignEach [.Name x px, .Name y py, .Name z pz] X.env).map (·.2) = assign (.Name x px) X.env :: (assignEach [.Name y py, .Name z pz] X.env).map (·.2) := by rfl) (q2 : (assignEach [.Name y py, .Name z pz] X.env).map (·.2) = assign (.Name y py) X.env :: (assignEach [.Name z pz] X.env).map (·.2) := by rfl) (q3 : (assignEach [.Name z pz] X.env).map (·.2) = assign (.Name z pz) X.env :: (assignEach [] X.env).map (·.2) := by rfl)
    (qn : (assignEach [.Name x px, .Name y py, .Name z pz] X.env).length = 3 := by rfl) (qst : (assignEach [.Name x px, .Name y py, .Name z pz] X.env).findIdx? (·.1) = none := by rfl) :
    PSs X (.Assign [.Tuple [.Name x px, .Name y py, .Name z pz] kt pt] e pos :: rest) (tS X.K F W Γ P) :=
  ds_seq (ps_imp (ps_asg he (pg_tgt (tgt_trip i j l) (pt_trip i j l hN hi hj hl hx hy hz hc hf hf2 hf3 q1 q2 q3 qn qst)) hs hw h1) fun D σ H ⟨G, E, q, _⟩ => ⟨G, E, fun v H1 G1 s1 E1 v1 => ⟨G1, _, Γ1, _, ⟨d1, d2, d3, rfl, rfl, ⟨hl1, hl2, hl3⟩, hb1, hb2, hb3⟩, E1, v1, fun σ' H' G' sg E' => q _ σ' H' G' hr (s1.g.trans sg) E'⟩⟩)
end
end AM

set_option Elab.async false
set_option linter.all false
set_option maxRecDepth 100000
set_option maxHeartbeats 2000000
namespace AM
open PySem PySem.Spec PyProof.Rows L2
structure Big (P : Program) (base : Heap) : Prop where
  seer : base.NoSeer
  tree : P.given.tree = none
def fdivQ (a b : Int) : Option Int := if b ≠ 0 then some (a.fdiv b) else none
section
variable {X : Cx} {F : Fx} {Γ Γ1 Γ2 : List Sl} {a b : Expr} {pos : Pos} {k : Nat} {i j m : Int}
theorem op_fdivP (Bg : Big X.prog X.base) (hr : Room (k + 33) X.A) (hst : ∃ e l, X.stack = e :: l ∧ e.scope.isGenerator = false ∧ e.scope.isCoroutine = false ∧ e.builtins = builtinsNs ∧ e.globals = mainGlobals) : OpR X (binaryOp .FloorDiv) (rI (fun _ j => j ≠ 0) fun i j => .int (i.fdiv j)) := by
  intro pins s σ H x y v u Q I rx ry ⟨i, j, ex, ey, hc, q⟩
  subst ex ey
  obtain ⟨t, rfl⟩ := rx
  obtain ⟨t', rfl⟩ := ry
  obtain ⟨e, l, hs, h1, h2, h3, h4⟩ := hst
  have hd := hr.dp
  refine floordiv_int hc ⟨.int (i.fdiv j), H, I.tok _, ⟨_, rfl⟩, q⟩ (.inr (PylongRoom.of I.nolimit (show _ + 100 < _ by omega) ?_))
  exact SeerAt.of (env := e) (l := l) (Bg.seer.keeps I.bk) Bg.tree (by rw [I.ok.frames, hs]) h1 h2 h3 h4
theorem y_fdivQ (ha : PE X a (tD X.K F Γ (.dat (.int i)) Γ1)) (hb : PE X b (tD X.K F Γ1 (.dat (.int j)) Γ2)) (h : fdivQ i j = some m) (Bg : Big X.prog X.base) (hr : Room (k + 33) X.A) (hst : ∃ e l, X.stack = e :: l ∧ e.scope.isGenerator = false ∧ e.scope.isCoroutine = false ∧ e.builtins = builtinsNs ∧ e.globals = mainGlobals := by exact ⟨_, _, rfl, rfl, rfl, rfl, rfl⟩) :
    PE X (.BinOp a .FloorDiv b pos) (tD X.K F Γ (.dat (.int m)) Γ2) := by
  unfold fdivQ at h
  split at h
  · rename_i hc
    cases h
    exact de_op (op_fdivP Bg hr hst) (rd_I (C := fun _ j => j ≠ 0) (g := fun i j => i.fdiv j) hc) ha hb
  · cases h
end
theorem app_lookup {K t : PySem.W.Frag} {a : Addr} {o : Obj} (h : K.lookup a = some o) : (K ++ t).lookup a = some o := by
  rw [List.lookup_append, h]; rfl
theorem app_nsIn {K t : PySem.W.Frag} {a : Addr} {x : Str} {r : Option Value} (h : PySem.W.nsIn K a x = some r) : PySem.W.nsIn (K ++ t) a x = some r := by
  cases q : K.lookup a with
  | none => unfold PySem.W.nsIn at h; rw [q] at h; cases h
  | some o =>
    unfold PySem.W.nsIn at h ⊢
    rw [q] at h
    rw [app_lookup q]
    exact h
def seerT (p : Addr × Obj × Obj × Obj × Obj) : PySem.W.Frag := [(cStatics, p.2.1), (sysModules, p.2.2.1), (builtinsNs, p.2.2.2.1), (p.1, p.2.2.2.2)]
theorem seer_in {K : PySem.W.Frag} {h : Heap} {mg : Str → Option Value} (KX : K.In h) (S : h.NoSeer) (hbm : ∃ (bm : Addr) (ob : Obj), mg "__builtins__" = some (.ref bm) ∧ bm ≠ builtinsNs ∧ h.get? bm = some ob ∧ ob.cls = .type "module" ∧ ob.dict = some builtinsNs ∧ ob.data = .plain) :
    ∃ p, (K ++ seerT p).In h ∧ (∀ base : Heap, (K ++ seerT p).In base → base.Ns mainGlobals mg → base.NoSeer) ∧ ∀ P, h.get? P = some { cls := .none, data := .fields #[] } → K.lookup P = none → (K ++ seerT p).lookup P = none := by
  obtain ⟨mc, ⟨o1, es1, ep1, g1, r1⟩, c1, c2⟩ := S.statics
  obtain ⟨mm, ⟨o2, es2, ep2, g2, r2⟩, m1⟩ := S.mods
  obtain ⟨mb, ⟨o3, es3, ep3, g3, r3⟩, b0⟩ := S.imp
  obtain ⟨bm, ob, e1, e2, g4, e4, e5, e6⟩ := hbm
  let p : Addr × Obj × Obj × Obj × Obj := (bm, o1, o2, o3, ob)
  have inT : ∀ a o, (seerT p).lookup a = some o → h.get? a = some o := fun a o q => by
    have q : List.lookup a [(cStatics, o1), (sysModules, o2), (builtinsNs, o3), (bm, ob)] = some o := q
    simp only [List.lookup_cons] at q
    split at q
    · rename_i z; rw [eq_of_beq z]; cases q; exact g1
    · split at q
      · rename_i z; rw [eq_of_beq z]; cases q; exact g2
      · split at q
        · rename_i z; rw [eq_of_beq z]; cases q; exact g3
        · split at q
          · rename_i z; rw [eq_of_beq z]; cases q; exact g4
          · cases q
  have up : ∀ a, (seerT p).lookup a ≠ none → ∀ o, h.get? a = some o → (K ++ seerT p).lookup a = some o := fun a ha o ho => by
    rw [List.lookup_append]
    cases q : K.lookup a with
    | some o' =>
      have := KX a o' q
      rw [ho] at this
      cases this; rfl
    | none =>
      cases q2 : (seerT p).lookup a with
      | none => exact absurd q2 ha
      | some o' =>
        have := inT a o' q2
        rw [ho] at this
        cases this; rfl
  have mem : ∀ a ∈ [cStatics, sysModules, builtinsNs, bm], (seerT p).lookup a ≠ none := fun a ha z => by
    have z : List.lookup a [(cStatics, o1), (sysModules, o2), (builtinsNs, o3), (bm, ob)] = none := z
    simp only [List.lookup_cons] at z
    simp only [List.mem_cons, List.not_mem_nil, or_false] at ha
    rcases ha with rfl | rfl | rfl | rfl <;> simp at z <;> (repeat' (split at z)) <;> simp_all
  refine ⟨p, fun a o q => ?_, fun base hB hN => ⟨⟨mc, ⟨o1, es1, ep1, hB _ _ (up _ (mem _ (by simp)) _ g1), r1⟩, c1, c2⟩, ⟨mm, ⟨o2, es2, ep2, hB _ _ (up _ (mem _ (by simp)) _ g2), r2⟩, m1⟩, ⟨mb, ⟨o3, es3, ep3, hB _ _ (up _ (mem _ (by simp)) _ g3), r3⟩, b0⟩, ⟨mg, bm, ob, hN, e1, hB _ _ (up _ (mem _ (by simp)) _ g4), e4, e5⟩⟩, fun P hP hK => ?_⟩
  · rw [List.lookup_append] at q
    cases q2 : K.lookup a with
    | some o' => rw [q2] at q; cases q; exact KX a _ q2
    | none => rw [q2] at q; exact inT a o q
  · rw [List.lookup_append, hK]
    cases q : (seerT p).lookup P with
    | none => rfl
    | some o =>
      exfalso
      have q' := inT P o q
      rw [hP] at q'
      have q : List.lookup P [(cStatics, o1), (sysModules, o2), (builtinsNs, o3), (bm, ob)] = some o := q
      simp only [List.lookup_cons] at q
      split at q
      · rename_i z; rw [eq_of_beq z] at hP; rw [g1] at hP; cases hP; cases r1.1
      · split at q
        · rename_i z; rw [eq_of_beq z] at hP; rw [g2] at hP; cases hP; cases r2.1
        · split at q
          · rename_i z; rw [eq_of_beq z] at hP; rw [g3] at hP; cases hP; cases r3.1
          · split at q
            · rename_i z; rw [eq_of_beq z] at hP; rw [g4] at hP; cases hP; cases e6
            · cases q
theorem walk_seer {l : PySem.W.OpenLaw} {n k : Nat} {q : Program} {loose : List Str} {XP : (Str → Option Value) → Heap → Prop} {YP : World → Heap → Prop} {d : DefRec} {K : Params → PySem.W.Frag} {CX : World → CXT} {x : Str} (h1 : l.most = some n) (h2 : n ≤ sizeLine) (h3 : d.params.defaults = []) (h4 : Room k callerA) (h5 : ∀ (w : World) (h : Heap), YP w h → (K w.params).In h) (himp : importsNone q = true)
    (F : ∀ (w : World) (mg : Str → Option Value) (fa : Addr) (h : Heap) (p : Addr × Obj × Obj × Obj × Obj), YP w h → (K w.params ++ seerT p).In h → h.Ns mainGlobals mg → mg d.name = some (.ref fa) → (∀ base : Heap, (K w.params ++ seerT p).In base → base.Ns mainGlobals mg → base.NoSeer) → (∀ P, h.get? P = some { cls := .none, data := .fields #[] } → (K w.params).lookup P = none → (K w.params ++ seerT p).lookup P = none) → LamX.LawAtS l w (K w.params ++ seerT p) (CX w) k n x mg fa h)
    (h6 : ∀ (w : World) (H : Hp) (s : Shared) (e : Value) (s' : Shared), CX w [] H s (fun _ _ _ => False) e s' → False) : PySem.W.WalkO q loose XP YP l.row.toRowW d [] (fun f vs => PySem.call f vs) := by
  refine Att.attach_callB h1 h3 fun w s₀ s₁ mg mb fa o pm cd doc a vs ns G Y g1 g2 g3 g4 g5 g6 g7 g8 g9 => ?_
  obtain ⟨p, hI, hS, hP⟩ := seer_in (h5 w _ Y) (G.T.seer himp) G.T.bmain
  obtain ⟨fd, cs, sp, e1, e2, e3, e4, e5, e6⟩ := F w mg fa _ p Y hI G.T.g g4 hS hP
  exact LamX.law_callTs hI G.T.g G.T.b G.T.builtins G.T.nolimit g9 e1 e2 e3 G.T.bmain g5 g6 (Nat.le_trans g7 h2) h4 e6 e4 (fun H u v => e5 H a ns g7 g8 u v) fun H e s' => h6 w H s₁ e s'
theorem law_plain {l : PySem.W.OpenLaw} {w : World} {K : PySem.W.Frag} {mg : Str → Option Value} {k : Nat} {fa : Addr} {fd : FuncData} {h : Heap} (hb : ∀ (s : Shared) (v : Value), BindsTo s fd ⟨[v], []⟩ [("script", v)])
    (F : ∀ base : Heap, K.In base → base.Ns mainGlobals mg → FnOk l.prog w K mg base (L2.CX l.prog w) k fa fd ["script"] (spLaw K)) : LamX.LawAtS l w K (L2.CX l.prog w) k 63 "script" mg fa h :=
  ⟨fd, [], spLaw K, (fun p hp => by cases hp), (fun p hp => by cases hp), (fun p hp => by cases hp), hb, fun H a ns hl _ _ hS => ⟨a, ns, rfl, hS, hl, (fun _ h => by cases h), fun _ => rfl⟩, fun base k1 k2 _ => F base k1 k2⟩
end AM

set_option Elab.async false
set_option linter.all false
set_option maxRecDepth 100000
set_option maxHeartbeats 2000000
namespace AM
open PySem PySem.Spec PyProof.Rows L2
mutual
def lfD : PyData → Bool
  | .list _ => false
  | .dict _ => false
  | .tuple ds => lfA ds
  | _ => true
def lfA : List PyData → Bool
  | [] => true
  | d :: r => lfD d && lfA r
end
structure LfE {α : Type} (e : α → PyData) : Prop where
  lf : ∀ x, lfD (e x) = true
theorem lfA_of {ds : List PyData} (h : ∀ d ∈ ds, lfD d = true) : lfA ds = true := by
  induction ds with
  | nil => rfl
  | cons d r ih => unfold lfA; rw [h d List.mem_cons_self, ih fun d m => h d (List.mem_cons_of_mem _ m)]; rfl
theorem lfE_int : LfE PyData.int := ⟨fun _ => by unfold lfD; rfl⟩
theorem lfE_bool : LfE PyData.bool := ⟨fun _ => by unfold lfD; rfl⟩
theorem lfE_str : LfE PyData.str := ⟨fun _ => by unfold lfD; rfl⟩
theorem LfE.T {α : Type} {e : α → PyData} (h : LfE e) : LfE (eT e) := ⟨fun l => by
  show lfD (.tuple (l.map e)) = true
  unfold lfD
  exact lfA_of fun d hd => by obtain ⟨x, _, rfl⟩ := List.mem_map.mp hd; exact h.lf x⟩
theorem LfE.P {α β : Type} {e : α → PyData} {f : β → PyData} (h : LfE e) (h2 : LfE f) : LfE (eP e f) := ⟨fun p => by
  show lfD (.tuple [e p.1, f p.2]) = true
  unfold lfD
  exact lfA_of fun d hd => by
    simp only [List.mem_cons, List.not_mem_nil, or_false] at hd
    rcases hd with rfl | rfl
    · exact h.lf _
    · exact h2.lf _⟩
theorem LfE.all {α : Type} {e : α → PyData} (h : LfE e) (l : List α) : ∀ d ∈ l.map e, lfD d = true := fun d hd => by obtain ⟨x, _, rfl⟩ := List.mem_map.mp hd; exact h.lf x
def TupIn (G G' : Hp) : Prop := ∀ a xs, G a = some (.tup xs) → G' a = some (.tup xs)
def FrzIn (G G' : Hp) : Prop := ∀ a o xs, G a = some (.frz o (.tup xs)) → G' a = some (.frz o (.tup xs))
theorem sqT_lf {K : PySem.W.Frag} {G G' : Hp} (t : TupIn G G') (f : FrzIn G G') {a : Addr} {xs : List V} (h : SqT K G a xs) : SqT K G' a xs := by
  rcases h with (h | ⟨o, h⟩) | h
  · exact .inl (.inl (t _ _ h))
  · exact .inl (.inr ⟨o, f _ _ _ h⟩)
  · exact .inr h
mutual
theorem dq_lf {K : PySem.W.Frag} {G G' : Hp} (t : TupIn G G') (f : FrzIn G G') : ∀ (d : PyData) (v : V), lfD d = true → Dq K G v d → Dq K G' v d
  | .none, _, _, h => by cases h; exact .non
  | .bool b, _, _, h => by cases h; exact .bl b
  | .int i, _, _, h => by cases h; exact .int i
  | .str x, _, _, h => by cases h; exact .str x
  | .list ds, _, l, h => by unfold lfD at l; cases l
  | .tuple ds, _, l, h => by
    unfold lfD at l
    cases h with
    | tup q a => exact .tup (sqT_lf t f q) (dqa_lf t f ds _ l a)
  | .dict _, _, _, h => nomatch h
theorem dqa_lf {K : PySem.W.Frag} {G G' : Hp} (t : TupIn G G') (f : FrzIn G G') : ∀ (ds : List PyData) (vs : List V), lfA ds = true → DqAll K G vs ds → DqAll K G' vs ds
  | [], _, _, h => by cases h; exact .nil
  | d :: ds, _, l, h => by
    unfold lfA at l
    rw [Bool.and_eq_true] at l
    cases h with
    | cons q a => exact .cons (dq_lf t f d _ l.1 q) (dqa_lf t f ds _ l.2 a)
end
def les (G : Hp) (p : Addr) : Hp := fun a => if a = p then none else G a
theorem les_p (G : Hp) (p : Addr) : les G p p = none := if_pos rfl
theorem les_ne {G : Hp} {p a : Addr} (h : a ≠ p) : les G p a = G a := if_neg h
theorem les_some {G : Hp} {p a : Addr} {o : HO} (h : les G p a = some o) : a ≠ p ∧ G a = some o := by
  unfold les at h
  by_cases e : a = p
  · rw [if_pos e] at h; cases h
  · rw [if_neg e] at h; exact ⟨e, h⟩
theorem les_tup {G : Hp} {p : Addr} {vs : List V} (h : G p = some (.lst vs)) : TupIn G (les G p) ∧ FrzIn G (les G p) := by
  constructor
  · intro a xs e
    rw [les_ne (fun z => by rw [z, h] at e; cases e)]; exact e
  · intro a o xs e
    rw [les_ne (fun z => by rw [z, h] at e; cases e)]; exact e
section
variable {X : Cx} {F : Fx} {W : WX} {Γ Γ1 Γ2 : List Sl} {a b c e elt iter tg : Expr} {es ifs : List Expr} {pos p : Pos} {scope : Scope} {own : List (Str × Nat)} {xs ys : List PyData} {k : Nat} {x : Str} {ps : List Str} {rs : List Rv} {ds : List PyData} {i : Nat}
def oLf (i : Nat) : Nat → List Sl → Prop
  | _, [] => True
  | n, .own zs :: r => (n = i ∨ lfA zs = true) ∧ oLf i (n + 1) r
  | n, _ :: r => oLf i (n + 1) r
theorem oLf_get {i : Nat} : ∀ (Γ : List Sl) (n : Nat), oLf i n Γ → ∀ j zs, lk Γ j = .own zs → n + j = i ∨ lfA zs = true
  | [], _, _, j, zs, e => by cases e
  | .no :: r, n, h, 0, zs, e => by cases e
  | .dat _ :: r, n, h, 0, zs, e => by cases e
  | .own ws :: r, n, h, 0, zs, e => by cases e; exact h.1
  | .no :: r, n, h, j + 1, zs, e => by have := oLf_get r (n + 1) h j zs e; rwa [show n + (j + 1) = n + 1 + j by omega]
  | .dat _ :: r, n, h, j + 1, zs, e => by have := oLf_get r (n + 1) h j zs e; rwa [show n + (j + 1) = n + 1 + j by omega]
  | .own _ :: r, n, h, j + 1, zs, e => by have := oLf_get r (n + 1) h.2 j zs e; rwa [show n + (j + 1) = n + 1 + j by omega]
theorem lc_own (i : Nat) (L : LcR X F (st Γ i (.dat (.list xs))) elt tg iter ifs scope own ys (wpG (st Γ i (.dat (.list xs))) (own.map (·.2)))) (hl : lk Γ i = .own xs := by rfl) (hb : pf F i = true := by rfl) (hy : ∀ d ∈ ys, lfD d = true) (hoth : oLf i 0 Γ) (ho : (own.map (·.2)).all (fun j => pf F j && (j != i)) = true := by rfl) :
    LcR X F Γ elt tg iter ifs scope own ys (wpG Γ (own.map (·.2))) := by
  obtain ⟨wi, g, tt, te, h1, h2, h3, h4, h5, h6, q⟩ := L
  refine ⟨wi, g, tt, te, h1, h2, h3, h4, h5, h6, fun σ H Q ⟨G, E, k⟩ => q σ H Q ?_⟩
  have hi : i < Γ.length := by
    apply Classical.byContradiction
    intro z
    rw [lk_big _ _ (by omega)] at hl
    cases hl
  have hoi : ∀ j ∈ own.map (·.2), pf F j = true ∧ j ≠ i := fun j hj => by
    have := List.all_eq_true.mp ho j hj
    rw [Bool.and_eq_true] at this
    exact ⟨this.1, by simpa using this.2⟩
  have s0 := E.sl i
  rw [hl] at s0
  obtain ⟨r, us, e1, gr, hr, ha, hm⟩ := s0
  have h0 : F.H0 r = none := hm.resolve_left fun z => by
    rcases z with ⟨j, hj⟩ | z
    · obtain ⟨e2, ys', e3⟩ := E.pin _ hj
      exact pf_ne hb _ hj (E.nd j i r ys' xs e3 hl e2 e1)
    · exact tabs_ne E.tab hr z
  have nOd : ¬ Own σ (st Γ i (.dat (.list xs))) r := fun ⟨j, zs, q1, q2⟩ => by
    by_cases w : i = j
    · subst w; rw [lk_st_same _ _ _ hi] at q1; cases q1
    · rw [lk_st_ne _ _ _ _ w] at q1
      exact w (E.nd i j r xs zs hl q1 e1 q2)
  have sg : Same G (upd G r (.lst us)) := same_upd gr
  obtain ⟨Ed⟩ : Nonempty (En X.K F (upd G r (.lst us)) σ H (st Γ i (.dat (.list xs)))) := by
    have E1 := E.drop i hb
    have no : ¬ Own σ (st Γ i .no) r := fun ⟨j, zs, q1, q2⟩ => by
      by_cases w : i = j
      · subst w; rw [lk_no] at q1; cases q1
      · rw [lk_st_ne _ _ _ _ w] at q1
        exact w (E.nd i j r xs zs hl q1 e1 q2)
    have E2 := E1.freeze hr gr no h0
    refine ⟨⟨E2.le, E2.g0, E2.fr, E2.base, E2.mu, fun j => ?_, fun u v p' as bs f1 f2 f3 f4 => ?_, by rw [st_length]; exact E.len, fun w hw => ?_, E2.tab, E2.nt⟩⟩
    · by_cases w : i = j
      · subst w
        rw [lk_st_same _ _ _ hi]
        exact ⟨.ref r, e1, .lst upd_same (dpa_mono sg _ _ ha)⟩
      · rw [lk_st_ne _ _ _ _ w]
        have := E2.sl j
        rwa [lk_st_ne _ _ _ _ w] at this
    · have ne : ∀ c zs, lk (st Γ i (.dat (.list xs))) c = .own zs → lk Γ c = .own zs := fun c zs f => by
        by_cases w : i = c
        · subst w; rw [lk_st_same _ _ _ hi] at f; cases f
        · rwa [lk_st_ne _ _ _ _ w] at f
      exact E.nd u v p' as bs (ne u as f1) (ne v bs f2) f3 f4
    · have ne := pf_ne hb w hw
      rw [lk_st_ne _ _ _ _ (Ne.symm ne)]
      exact E.pin w hw
  refine ⟨upd G r (.lst us), Ed, fun p' vs H' G' s' E' fr gp hp al => ?_⟩
  have hG'r : G' r = some (.lst us) := s'.g r _ upd_same
  have hH'r : H' r = some (.lst us) := E'.le r _ hG'r
  have pr : p' ≠ r := fun z => by rw [z, hG'r] at gp; cases gp
  obtain ⟨t1, t2⟩ := les_tup hG'r
  have sGG : Same G (les G' r) := fun u o f => by
    have ne : u ≠ r := fun z => by rw [z, gr] at f; cases f
    rw [les_ne ne]
    exact s'.g u o (sg u o f)
  have lkw : ∀ j, lk (wpG Γ (own.map (·.2))) j = if j ∈ own.map (·.2) then .no else lk Γ j := fun j => by
    by_cases w : j ∈ own.map (·.2)
    · rw [if_pos w]; exact lk_wpG w
    · rw [if_neg w]; exact lk_wpG_out _ w
  have hin : i ∉ own.map (·.2) := fun z => (hoi i z).2 rfl
  have keepO : ∀ u o, H u = some o → ¬ Own σ Γ u → NoTb o → H' u = some o := fun u o f n t => s'.k u o f (fun ⟨j, zs, q1, q2⟩ => n (by
    by_cases w : i = j
    · subst w; rw [lk_st_same _ _ _ hi] at q1; cases q1
    · rw [lk_st_ne _ _ _ _ w] at q1; exact ⟨j, zs, q1, q2⟩)) t
  refine k p' vs H' (les G' r) ⟨sGG, fun u o f => ?_, keepO, fun u ⟨j, zs, q1, q2⟩ => ?_, s'.s⟩ ⟨fun u o f => E'.le u o (les_some f).2, fun u o f => sGG u o (E.g0 u o f), fun u o f => E'.fr u o (les_some f).2, E'.base, E'.mu, fun j => ?_, fun u v p2 as bs f1 f2 f3 f4 => ?_, by rw [wpG_length]; exact E.len, fun w hw => ⟨(E'.pin w hw).1, ?_⟩, E'.tab, fun u o f => E'.nt u o (les_some f).2⟩ fr (by rw [les_ne pr]; exact gp) hp (dqa_lf t1 t2 ys vs (lfA_of hy) al)
  · obtain ⟨ne, f⟩ := les_some f
    rcases s'.f u o f with ⟨o', f'⟩ | f'
    · rw [upd_ne ne] at f'; exact .inl ⟨o', f'⟩
    · exact .inr f'
  · rw [lkw] at q1
    split at q1
    · cases q1
    · exact ⟨j, zs, q1, q2⟩
  · rw [lkw]
    split
    · trivial
    · rename_i w
      have s := E.sl j
      cases ql : lk Γ j with
      | no => trivial
      | dat d =>
        rw [ql] at s
        obtain ⟨v, z1, z2⟩ := s
        exact ⟨v, z1, dp_mono sGG _ _ z2⟩
      | own zs =>
        rw [ql] at s
        obtain ⟨a', ws, z1, z2, z3, z4, z5⟩ := s
        by_cases wi' : i = j
        · subst wi'
          rw [hl] at ql
          cases ql
          rw [e1] at z1
          cases z1
          exact ⟨r, us, e1, les_p _ _, hH'r, dpa_mono sGG _ _ ha, hm⟩
        · have s2 := E'.sl j
          rw [lk_wpG_out _ w, lk_st_ne _ _ _ _ wi', ql] at s2
          obtain ⟨a2, ws2, y1, y2, y3, y4, y5⟩ := s2
          have ar : a2 ≠ r := fun z => by
            subst z
            exact wi' (E.nd i j a2 xs zs hl ql e1 y1)
          have lz : lfA zs = true := (oLf_get Γ 0 hoth j zs ql).resolve_left (by omega)
          have y4' : DqAll X.K (les G' r) ws2 zs := dqa_lf t1 t2 zs ws2 lz y4
          exact ⟨a2, ws2, y1, by rw [les_ne ar]; exact y2, y3, y4', y5⟩
  · rw [lkw] at f1 f2
    split at f1
    · cases f1
    · split at f2
      · cases f2
      · exact E.nd u v p2 as bs f1 f2 f3 f4
  · have nw : w.1 ∉ own.map (·.2) := fun z => pf_ne (hoi _ z).1 w hw rfl
    rw [lkw, if_neg nw]
    exact (E.pin w hw).2
theorem dcN {R : List PyData → Res → Prop} (C : Cal X.prog X.w X.K X.mg X.base k x ps (spP X.K R)) (hr : Room k X.A) (ha : PA X (e :: es) (tDA X.K F Γ rs Γ1)) (hR : R ds (.ok (.list xs))) (l1 : lfA ds = true) (l2 : lfA xs = true) (hd : datS rs = some ds := by rfl)
    (hg : Gl X x := by rfl) (hdb : (x == ("__debug__" : Str)) = false := by decide) (he : starEach (e :: es) X.env = (false, eval e X.env) :: starEach es X.env := by rfl) (hpl : (backTo pos (starEach es X.env)).any (·.1) = false := by rfl) :
    PE X (.Call (.Name x p) (e :: es) [] pos) (tN X.K F Γ xs Γ1) := by
  obtain ⟨f, fd, h1, h2, h3, h4⟩ := C.ex
  refine pe_imp (pe_callS (E := WE fun _ _ _ _ => False) h1 hr hg h2 h3 h4 (fun σ => passAt takes0 σ) ha hdb he hpl) fun σ H Q ⟨G, E, q⟩ => ⟨G, E, fun vs H1 G1 s1 E1 v1 => ?_⟩
  -- tuples alone are handed on as data
  let G0 : Hp := fun a => match G1 a with
    | some (.tup zs) => some (.tup zs)
    | some (.frz o (.tup zs)) => some (.frz o (.tup zs))
    | _ => none
  have g0le : Same G0 G1 := fun a o h => by
    have h : (match G1 a with | some (.tup zs) => some (HO.tup zs) | some (.frz o (.tup zs)) => some (HO.frz o (.tup zs)) | _ => none) = some o := h
    cases z : G1 a with
    | none => rw [z] at h; cases h
    | some u =>
      rw [z] at h
      cases u <;> first | exact h | (rename_i w1 w2; cases w2 <;> first | exact h | cases h) | cases h
  have t0 : TupIn G1 G0 := fun a zs h => by show (match G1 a with | some (.tup zs) => some (HO.tup zs) | some (.frz o (.tup zs)) => some (HO.frz o (.tup zs)) | _ => none) = _; rw [h]
  have f0 : FrzIn G1 G0 := fun a o zs h => by show (match G1 a with | some (.tup zs) => some (HO.tup zs) | some (.frz o (.tup zs)) => some (HO.frz o (.tup zs)) | _ => none) = _; rw [h]
  have n0 : ∀ a zs, G0 a ≠ some (.lst zs) := fun a zs h => by
    have h : (match G1 a with | some (.tup zs) => some (HO.tup zs) | some (.frz o (.tup zs)) => some (HO.frz o (.tup zs)) | _ => none) = some (.lst zs) := h
    cases z : G1 a with
    | none => rw [z] at h; cases h
    | some u =>
      rw [z] at h
      cases u <;> first | (rename_i w1 w2; cases w2 <;> cases h) | cases h
  refine ⟨G0, ds, .ok (.list xs), g0le.trans E1.le, fun a o h => E1.nt a o (g0le a o h), dqa_lf t0 f0 ds vs l1 (datS_dp v1 hd), hR, fun v H' G' gr hv => ?_⟩
  obtain ⟨r, us, rfl, hG'r, al⟩ := dp_lst hv
  have hr0 : H1 r = none := by
    rcases gr.f r _ hG'r with ⟨o', z⟩ | z
    · have := gr.g r _ z
      rw [hG'r] at this
      cases this
      exact absurd z (n0 r us)
    · exact z
  have hH'r : H' r = some (.lst us) := gr.le r _ hG'r
  have g1r : G1 r = none := (E1.no hr0).2.2
  -- all data: the caller's, and what is new but the list
  let G2 : Hp := fun a => match G1 a with
    | some o => some o
    | none => les G' r a
  have e21 : ∀ a o, G1 a = some o → G2 a = some o := fun a o h => by show (match G1 a with | some o => some o | none => les G' r a) = _; rw [h]
  have e22 : ∀ a, G1 a = none → G2 a = les G' r a := fun a h => by show (match G1 a with | some o => some o | none => les G' r a) = _; rw [h]
  have le2 : Same G2 H' := fun a o h => by
    cases z : G1 a with
    | some u => rw [e21 a u z] at h; cases h; exact gr.h a _ (E1.le a _ z)
    | none => rw [e22 a z] at h; exact gr.le a o (les_some h).2
  have tt : TupIn G' G2 := fun a zs h => by
    cases z : G1 a with
    | some u =>
      have := gr.h a _ (E1.le a _ z)
      rw [gr.le a _ h] at this
      cases this
      exact e21 a _ z
    | none => rw [e22 a z, les_ne (fun w => by rw [w, hG'r] at h; cases h)]; exact h
  have ff : FrzIn G' G2 := fun a o zs h => by
    cases z : G1 a with
    | some u =>
      have := gr.h a _ (E1.le a _ z)
      rw [gr.le a _ h] at this
      cases this
      exact e21 a _ z
    | none => rw [e22 a z, les_ne (fun w => by rw [w, hG'r] at h; cases h)]; exact h
  have g2r : G2 r = none := by rw [e22 r g1r]; exact les_p _ _
  have gro : Grown G1 H1 G2 H' := ⟨gr.h, e21, le2, fun a o h => by
    cases z : G1 a with
    | some u => exact .inl ⟨u, rfl⟩
    | none =>
      rw [e22 a z] at h
      rcases gr.f a o (les_some h).2 with ⟨o', w⟩ | w
      · rw [g0le a o' w] at z; cases z
      · exact .inr w, fun a o h => by
    cases z : G1 a with
    | some u => rw [e21 a u z] at h; cases h; exact E1.nt a _ z
    | none => rw [e22 a z] at h; exact gr.nt a o (les_some h).2⟩
  exact q r us H' G2 (s1.trans gro.step) (E1.grown gro) (fre_of s1 E1 hr0) g2r hH'r (dqa_lf tt ff xs us l2 al)
end
end AM
namespace AM
open PySem PySem.Spec PyProof.Rows L2
section
variable {X : Cx} {F : Fx} {Γ Γ1 Γ2 : List Sl} {a b : Expr} {pos : Pos} {k : Nat} {ra rb : Rv} {α : Type} {en : α → PyData}
theorem rd_inD {K : PySem.W.Frag} {da : PyData} {ds : List PyData} (va : vw Γ ra = some da) (vb : vw Γ rb = some (.list ds)) (sa : SeqAt.shaped da = true) (sb : SeqAt.shaped (.list ds) = true) : RD2 K F Γ (rInD K) ra rb (.dat (.bool (ds.any fun z => PyData.eqv z da))) := fun G H σ x y Q E vx vy k =>
  ⟨da, ds, dq_dp _ _ (E.view vx va), dq_dp _ _ (E.view vy vb), sa, sb, k _ H G Step.refl E (.bl _)⟩
theorem rd_notInD {K : PySem.W.Frag} {da : PyData} {ds : List PyData} (va : vw Γ ra = some da) (vb : vw Γ rb = some (.list ds)) (sa : SeqAt.shaped da = true) (sb : SeqAt.shaped (.list ds) = true) : RD2 K F Γ (rNotInD K) ra rb (.dat (.bool (!ds.any fun z => PyData.eqv z da))) := fun G H σ x y Q E vx vy k =>
  ⟨da, ds, dq_dp _ _ (E.view vx va), dq_dp _ _ (E.view vy vb), sa, sb, k _ H G Step.refl E (.bl _)⟩
theorem any_mem [DecidableEq α] (E : EqE en) (x : α) (ys : List α) : ((ys.map en).any fun z => PyData.eqv z (en x)) = decide (x ∈ ys) := by
  induction ys with
  | nil => simp
  | cons y r ih =>
    rw [List.map_cons, List.any_cons, ih, E.eq]
    by_cases h : y = x
    · subst h; simp
    · have : ¬ x = y := fun z => h z.symm
      simp [h, this]
theorem any_memD [DecidableEq α] (E : EqE en) {x : α} {ys : List α} {Dm : Decidable (x ∈ ys)} : ((ys.map en).any fun z => PyData.eqv z (en x)) = @decide (x ∈ ys) Dm := by
  rw [any_mem E]; congr 1
theorem units65 (hr : Room k X.A) : X.A.units + 65 < cLine := by have := hr.un; omega
theorem y_in [DecidableEq α] {n : Nat} {x : α} {ys : List α} {Dm : Decidable (x ∈ ys)} (E : EqE en) (S : ShE en n) (hr : Room k X.A) (ha : PE X a (tD X.K F Γ ra Γ1)) (hb : PE X b (tD X.K F Γ1 rb Γ2)) (va : vw Γ2 ra = some (en x) := by rfl) (vb : vw Γ2 rb = some (.list (ys.map en)) := by rfl) (hn : n + 1 ≤ 64 := by decide) (hm : behindInMarks .In b = false := by rfl) : PE X (.Compare a [.In] [b] pos) (tD X.K F Γ (.dat (.bool (@decide (x ∈ ys) Dm))) Γ2) := by
  rw [← any_memD E]; exact de_cmp (op_inD (units65 hr)) (rd_inD va vb (S.sh x (by omega)) (S.L.sh ys hn)) ha hb hm
theorem y_notin [DecidableEq α] {n : Nat} {x : α} {ys : List α} {Dm : Decidable (x ∈ ys)} (E : EqE en) (S : ShE en n) (hr : Room k X.A) (ha : PE X a (tD X.K F Γ ra Γ1)) (hb : PE X b (tD X.K F Γ1 rb Γ2)) (va : vw Γ2 ra = some (en x) := by rfl) (vb : vw Γ2 rb = some (.list (ys.map en)) := by rfl) (hn : n + 1 ≤ 64 := by decide) (hm : behindInMarks .NotIn b = false := by rfl) : PE X (.Compare a [.NotIn] [b] pos) (tD X.K F Γ (.dat (.bool (!@decide (x ∈ ys) Dm))) Γ2) := by
  rw [← any_memD E]; exact de_cmp (op_notInD (units65 hr)) (rd_notInD va vb (S.sh x (by omega)) (S.L.sh ys hn)) ha hb hm
theorem y_tin [DecidableEq α] {n : Nat} {x : α} {ys : List α} {Dm : Decidable (x ∈ ys)} (E : EqE en) (S : ShE en n) (hr : Room k X.A) (ha : PE X a (tD X.K F Γ ra Γ1)) (hb : PE X b (tD X.K F Γ1 rb Γ2)) (va : vw Γ2 ra = some (en x) := by rfl) (vb : vw Γ2 rb = some (.list (ys.map en)) := by rfl) (hn : n + 1 ≤ 64 := by decide) (hm : behindInMarks .In b = false := by rfl) : PT X (.Compare a [.In] [b] pos) (tDT X.K F Γ (@decide (x ∈ ys) Dm) Γ2) := by
  rw [← any_memD E]; exact dt_cmp (op_inD (units65 hr)) (rd_inD va vb (S.sh x (by omega)) (S.L.sh ys hn)) ha hb hm
theorem y_tnotin [DecidableEq α] {n : Nat} {x : α} {ys : List α} {Dm : Decidable (x ∈ ys)} (E : EqE en) (S : ShE en n) (hr : Room k X.A) (ha : PE X a (tD X.K F Γ ra Γ1)) (hb : PE X b (tD X.K F Γ1 rb Γ2)) (va : vw Γ2 ra = some (en x) := by rfl) (vb : vw Γ2 rb = some (.list (ys.map en)) := by rfl) (hn : n + 1 ≤ 64 := by decide) (hm : behindInMarks .NotIn b = false := by rfl) : PT X (.Compare a [.NotIn] [b] pos) (tDT X.K F Γ (!@decide (x ∈ ys) Dm) Γ2) := by
  rw [← any_memD E]; exact dt_cmp (op_notInD (units65 hr)) (rd_notInD va vb (S.sh x (by omega)) (S.L.sh ys hn)) ha hb hm
end
theorem lfA1 {d : PyData} (h : lfD d = true) : lfA [d] = true := by unfold lfA; rw [h]; unfold lfA; rfl
theorem lfA2 {d d' : PyData} (h : lfD d = true) (h' : lfD d' = true) : lfA [d, d'] = true := by unfold lfA; rw [h, lfA1 h']; rfl
theorem lf_bag (b : Bag) : lfA (bagD b) = true := by unfold bagD; unfold lfA; rw [lfA2 (lfE_int.lf _) (lfE_int.lf _), lfE_int.lf]; rfl
end AM
namespace AM
open PySem PySem.Spec PyProof.Rows L2
theorem new_D {X : Cx} {F : Fx} {Γ Γ1 : List Sl} {e : Expr} {xs : List PyData} (h : PE X e (tN X.K F Γ xs Γ1)) : PE X e (tN X.K F Γ (xs.map eD) Γ1) := by
  have : xs.map eD = xs := List.map_id' xs
  rw [this]; exact h
end AM
namespace AM
open PySem PySem.Spec PyProof.Rows L2
section
variable {X : Cx} {F : Fx} {Γ : List Sl} {e : Expr} {xs : List PyData}
theorem own_view {K : PySem.W.Frag} {G H : Hp} {σ : L2.St} (E : En K F G σ H Γ) {i : Nat} (hl : lk Γ i = .own xs) (hb : pf F i = true) (hoth : oLf i 0 Γ) : ∃ Gd, En K F Gd σ H (st Γ i (.dat (.list xs))) ∧ ∀ G' H', Step σ (st Γ i (.dat (.list xs))) (st Γ i (.dat (.list xs))) Gd H G' H' → En K F G' σ H' (st Γ i (.dat (.list xs))) →
    ∃ G2, Step σ Γ Γ G H G2 H' ∧ En K F G2 σ H' Γ ∧ TupIn G' G2 ∧ FrzIn G' G2 := by
  have hi : i < Γ.length := by
    apply Classical.byContradiction
    intro z
    rw [lk_big _ _ (by omega)] at hl
    cases hl
  have s0 := E.sl i
  rw [hl] at s0
  obtain ⟨r, us, e1, gr, hr, ha, hm⟩ := s0
  have h0 : F.H0 r = none := hm.resolve_left fun z => by
    rcases z with ⟨j, hj⟩ | z
    · obtain ⟨e2, ys', e3⟩ := E.pin _ hj
      exact pf_ne hb _ hj (E.nd j i r ys' xs e3 hl e2 e1)
    · exact tabs_ne E.tab hr z
  have sg : Same G (upd G r (.lst us)) := same_upd gr
  have Ed : En K F (upd G r (.lst us)) σ H (st Γ i (.dat (.list xs))) := by
    have E1 := E.drop i hb
    have no : ¬ Own σ (st Γ i .no) r := fun ⟨j, zs, q1, q2⟩ => by
      by_cases w : i = j
      · subst w; rw [lk_no] at q1; cases q1
      · rw [lk_st_ne _ _ _ _ w] at q1
        exact w (E.nd i j r xs zs hl q1 e1 q2)
    have E2 := E1.freeze hr gr no h0
    refine ⟨E2.le, E2.g0, E2.fr, E2.base, E2.mu, fun j => ?_, fun u v p' as bs f1 f2 f3 f4 => ?_, by rw [st_length]; exact E.len, fun w hw => ?_, E2.tab, E2.nt⟩
    · by_cases w : i = j
      · subst w
        rw [lk_st_same _ _ _ hi]
        exact ⟨.ref r, e1, .lst upd_same (dpa_mono sg _ _ ha)⟩
      · rw [lk_st_ne _ _ _ _ w]
        have := E2.sl j
        rwa [lk_st_ne _ _ _ _ w] at this
    · have ne : ∀ c zs, lk (st Γ i (.dat (.list xs))) c = .own zs → lk Γ c = .own zs := fun c zs f => by
        by_cases w : i = c
        · subst w; rw [lk_st_same _ _ _ hi] at f; cases f
        · rwa [lk_st_ne _ _ _ _ w] at f
      exact E.nd u v p' as bs (ne u as f1) (ne v bs f2) f3 f4
    · have ne := pf_ne hb w hw
      rw [lk_st_ne _ _ _ _ (Ne.symm ne)]
      exact E.pin w hw
  refine ⟨_, Ed, fun G' H' s' E' => ?_⟩
  have hG'r : G' r = some (.lst us) := s'.g r _ upd_same
  have hH'r : H' r = some (.lst us) := E'.le r _ hG'r
  obtain ⟨t1, t2⟩ := les_tup hG'r
  have sGG : Same G (les G' r) := fun u o f => by
    have ne : u ≠ r := fun z => by rw [z, gr] at f; cases f
    rw [les_ne ne]
    exact s'.g u o (sg u o f)
  refine ⟨les G' r, ⟨sGG, fun u o f => ?_, fun u o f n t => s'.k u o f (fun ⟨j, zs, q1, q2⟩ => n ?_) t, fun u z => z, s'.s⟩, ⟨fun u o f => E'.le u o (les_some f).2, fun u o f => sGG u o (E.g0 u o f), fun u o f => E'.fr u o (les_some f).2, E'.base, E'.mu, fun j => ?_, E.nd, E.len, fun w hw => E.pin w hw, E'.tab, fun u o f => E'.nt u o (les_some f).2⟩, t1, t2⟩
  · obtain ⟨ne, f⟩ := les_some f
    rcases s'.f u o f with ⟨o', f'⟩ | f'
    · rw [upd_ne ne] at f'; exact .inl ⟨o', f'⟩
    · exact .inr f'
  · by_cases w : i = j
    · subst w; rw [lk_st_same _ _ _ hi] at q1; cases q1
    · rw [lk_st_ne _ _ _ _ w] at q1; exact ⟨j, zs, q1, q2⟩
  · have s := E.sl j
    cases ql : lk Γ j with
    | no => trivial
    | dat d =>
      rw [ql] at s
      obtain ⟨v, z1, z2⟩ := s
      exact ⟨v, z1, dp_mono sGG _ _ z2⟩
    | own zs =>
      by_cases wi' : i = j
      · subst wi'
        rw [hl] at ql
        cases ql
        exact ⟨r, us, e1, les_p _ _, hH'r, dpa_mono sGG _ _ ha, hm⟩
      · have s2 := E'.sl j
        rw [lk_st_ne _ _ _ _ wi', ql] at s2
        obtain ⟨a2, ws2, y1, y2, y3, y4, y5⟩ := s2
        have ar : a2 ≠ r := fun z => by
          subst z
          exact wi' (E.nd i j a2 xs zs hl ql e1 y1)
        have lz : lfA zs = true := (oLf_get Γ 0 hoth j zs ql).resolve_left (by omega)
        exact ⟨a2, ws2, y1, by rw [les_ne ar]; exact y2, y3, dqa_lf t1 t2 zs ws2 lz y4, y5⟩
theorem pe_own (i : Nat) {d : PyData} (h : PE X e (tD X.K F (st Γ i (.dat (.list xs))) (.dat d) (st Γ i (.dat (.list xs))))) (lf : lfD d = true) (hoth : oLf i 0 Γ) (hl : lk Γ i = .own xs := by rfl) (hb : pf F i = true := by rfl) : PE X e (tD X.K F Γ (.dat d) Γ) :=
  pe_imp h fun σ H Q ⟨G, E, q⟩ => by
    obtain ⟨Gd, Ed, back⟩ := own_view E hl hb hoth
    refine ⟨Gd, Ed, fun v H' G' s' E' v' => ?_⟩
    obtain ⟨G2, s2, E2, t1, t2⟩ := back G' H' s' E'
    exact q v H' G2 s2 E2 (dq_lf t1 t2 d v lf v')
theorem pt_own (i : Nat) {k : Bool} (h : PT X e (tDT X.K F (st Γ i (.dat (.list xs))) k (st Γ i (.dat (.list xs))))) (hoth : oLf i 0 Γ) (hl : lk Γ i = .own xs := by rfl) (hb : pf F i = true := by rfl) : PT X e (tDT X.K F Γ k Γ) :=
  pt_imp h fun σ H Q ⟨G, E, q⟩ => by
    obtain ⟨Gd, Ed, back⟩ := own_view E hl hb hoth
    refine ⟨Gd, Ed, fun H' G' s' E' => ?_⟩
    obtain ⟨G2, s2, E2, t1, t2⟩ := back G' H' s' E'
    exact q H' G2 s2 E2
end
end AM

set_option Elab.async false
set_option linter.all false
set_option maxRecDepth 100000
set_option maxHeartbeats 2000000
namespace AM
open PySem PySem.Spec PyProof.Rows L2
def insC {α : Type} (xs : List α) (i : Int) (x : α) : Option (List α) := if 0 ≤ i ∧ i < 2 ^ 63 ∧ xs.length < 100000 then some (xs.take i.toNat ++ [x] ++ xs.drop i.toNat) else none
def popAtC {α : Type} (xs : List α) (i : Int) : Option (List α) := if 0 ≤ i ∧ i < (xs.length : Int) ∧ xs.length < 100000 then some (xs.eraseIdx i.toNat) else none
theorem dpa_erase {K : PySem.W.Frag} {G : Hp} : ∀ {vs : List V} {ds : List PyData} (n : Nat), DqAll K G vs ds → DqAll K G (vs.eraseIdx n) (ds.eraseIdx n)
  | _, _, _, .nil => by simp; exact .nil
  | _, _, 0, .cons _ r => r
  | _, _, n + 1, .cons q r => .cons q (dpa_erase n r)
section
variable {X : Cx} {F : Fx} {W : WX} {P : Out → Prop} {Γ Γ1 Γ2 Γ3 : List Sl} {a b c e e2 ix o : Expr} {es : List Expr} {pos pos' p p2 p3 : Pos} {k : Nat} {rest : List Stmt} {ra rb : Rv} {i j m : Int} {α β : Type} {en : α → PyData} {em : β → PyData} {d : PyData}
abbrev rIns : V → List V → Hp → VK → Prop := fun x vs H Q => ∃ (l : Addr) (xs : List V) (i : Int) (y : V), x = .ref l ∧ vs = [.int i, y] ∧ H l = some (.lst xs) ∧ xs.length < sizeLine ∧ 0 ≤ i ∧ i < 2 ^ 63 ∧ Q .non (upd H l (.lst (xs.take i.toNat ++ [y] ++ xs.drop i.toNat)))
theorem ds_insert {s : Nat} {xs ds : List PyData} {apos epos : Pos} (ho : PE X o (tD X.K F Γ (.al s) Γ1)) (h0 : 0 ≤ i) (h1 : i < 2 ^ 63) (hz : xs.length < 100000)
    (hr : PSs X rest (tS X.K F W (st Γ3 s (.own (xs.take i.toNat ++ [d] ++ xs.drop i.toNat))) P)) (hl1 : lk Γ1 s = .own ds := by rfl) (hl : lk Γ3 s = .own xs := by rfl)
    (hp : PE X (.Call (.Attribute o "insert" apos) [e, e2] [] epos) (tBM X.K "list" rIns (tD X.K F Γ (.al s) Γ1) (tCons (tD X.K F Γ1 (.dat (.int i)) Γ2) (tCons (tD X.K F Γ2 (.dat d) Γ3) tNil)))) (hs : swapsWith (.Call (.Attribute o "insert" apos) [e, e2] [] epos) none pos.line X.env = pure false := by rfl) :
    PSs X (.Expr (.Call (.Attribute o "insert" apos) [e, e2] [] epos) pos :: rest) (tS X.K F W Γ P) :=
  ds_seq (ps_imp (ps_expr hp hs) fun D σ H ⟨G, E, q, _⟩ => ⟨G, E, fun ov H1 G1 s1 E1 v1 => by
    obtain ⟨p, vs, es, g, hp, al⟩ := own_at E1 hl1
    have v1 : σ[s]? = some (some ov) := v1
    rw [es] at v1
    have : V.ref p = ov := Option.some.inj (Option.some.inj v1)
    subst this
    refine ⟨Or.inl ⟨rfl, vs, .inl (.inl hp)⟩, G1, E1, fun v H2 G2 s2 E2 v2 => ⟨G2, E2, fun w H3 G3 s3 E3 v3 => ?_⟩⟩
    obtain ⟨p', vs', es', g', hp', al'⟩ := own_at E3 hl
    rw [es] at es'
    cases es'
    refine ⟨p, vs', i, w, rfl, by rw [dp_int v2], hp', by rw [dpa_len al']; exact Nat.lt_of_lt_of_le hz (by decide), h0, h1, ?_⟩
    exact q _ _ _ G3 hr ((s1.trans s2).trans s3).g (E3.write hl es (dpa_app (dpa_app (dpa_take _ al') (.cons v3 .nil)) (dpa_drop _ al')))⟩)
theorem y_insert (s : Nat) {xs ys : List α} {x : α} {apos epos : Pos} (ho : PE X o (tD X.K F Γ (.al s) Γ1)) (h : insC xs i x = some ys)
    (hr : PSs X rest (tS X.K F W (st Γ3 s (.own (ys.map en))) P)) {zs : List PyData} (hl1 : lk Γ1 s = .own zs := by rfl) (hl : lk Γ3 s = .own (xs.map en) := by rfl)
    (hp : PE X (.Call (.Attribute o "insert" apos) [e, e2] [] epos) (tBM X.K "list" rIns (tD X.K F Γ (.al s) Γ1) (tCons (tD X.K F Γ1 (.dat (.int i)) Γ2) (tCons (tD X.K F Γ2 (.dat (en x)) Γ3) tNil)))) (hs : swapsWith (.Call (.Attribute o "insert" apos) [e, e2] [] epos) none pos.line X.env = pure false := by rfl) :
    PSs X (.Expr (.Call (.Attribute o "insert" apos) [e, e2] [] epos) pos :: rest) (tS X.K F W Γ P) := by
  unfold insC at h
  split at h
  · rename_i hc
    cases h
    refine ds_insert (xs := xs.map en) (d := en x) ho hc.1 hc.2.1 (by rw [List.length_map]; exact hc.2.2) ?_ hl1 hl hp hs
    rw [List.map_append, List.map_append, List.map_take, List.map_drop] at hr; exact hr
  · cases h
theorem ds_popAt {s : Nat} {xs ds : List PyData} {apos epos : Pos} (ho : PE X o (tD X.K F Γ (.al s) Γ1)) (h0 : 0 ≤ i) (h1 : i < (xs.length : Int)) (hz : xs.length < 100000)
    (hr : PSs X rest (tS X.K F W (st Γ2 s (.own (xs.eraseIdx i.toNat))) P)) (hl1 : lk Γ1 s = .own ds := by rfl) (hl : lk Γ2 s = .own xs := by rfl)
    (hp : PE X (.Call (.Attribute o "pop" apos) [e] [] epos) (tBM X.K "list" rPopAt (tD X.K F Γ (.al s) Γ1) (tCons (tD X.K F Γ1 (.dat (.int i)) Γ2) tNil))) (hs : swapsWith (.Call (.Attribute o "pop" apos) [e] [] epos) none pos.line X.env = pure false := by rfl) :
    PSs X (.Expr (.Call (.Attribute o "pop" apos) [e] [] epos) pos :: rest) (tS X.K F W Γ P) :=
  ds_seq (ps_imp (ps_expr hp hs) fun D σ H ⟨G, E, q, _⟩ => ⟨G, E, fun ov H1 G1 s1 E1 v1 => by
    obtain ⟨p, vs, es, g, hp, al⟩ := own_at E1 hl1
    have v1 : σ[s]? = some (some ov) := v1
    rw [es] at v1
    have : V.ref p = ov := Option.some.inj (Option.some.inj v1)
    subst this
    refine ⟨Or.inl ⟨rfl, vs, .inl (.inl hp)⟩, G1, E1, fun v H2 G2 s2 E2 v2 => ?_⟩
    obtain ⟨p', vs', es', g', hp', al'⟩ := own_at E2 hl
    rw [es] at es'
    cases es'
    have hn := dpa_len al'
    have hlt : i.toNat < vs'.length := by omega
    refine ⟨p, vs', i, i.toNat, vs'[i.toNat], rfl, by rw [dp_int v2], hp', by omega, by omega, ?_, List.getElem?_eq_getElem hlt, ?_⟩
    · unfold seqIndex?
      simp only []
      rw [if_neg (show ¬ i < 0 by omega), if_pos (by rw [decide_eq_true h0, decide_eq_true (show i < (vs'.length : Int) by omega)]; rfl)]
    · exact q _ _ _ G2 hr (s1.trans s2).g (E2.write hl es (dpa_erase _ al'))⟩)
theorem y_popAt (s : Nat) {xs ys : List α} {apos epos : Pos} (ho : PE X o (tD X.K F Γ (.al s) Γ1)) (h : popAtC xs i = some ys)
    (hr : PSs X rest (tS X.K F W (st Γ2 s (.own (ys.map en))) P)) {zs : List PyData} (hl1 : lk Γ1 s = .own zs := by rfl) (hl : lk Γ2 s = .own (xs.map en) := by rfl)
    (hp : PE X (.Call (.Attribute o "pop" apos) [e] [] epos) (tBM X.K "list" rPopAt (tD X.K F Γ (.al s) Γ1) (tCons (tD X.K F Γ1 (.dat (.int i)) Γ2) tNil))) (hs : swapsWith (.Call (.Attribute o "pop" apos) [e] [] epos) none pos.line X.env = pure false := by rfl) :
    PSs X (.Expr (.Call (.Attribute o "pop" apos) [e] [] epos) pos :: rest) (tS X.K F W Γ P) := by
  unfold popAtC at h
  split at h
  · rename_i hc
    cases h
    refine ds_popAt (xs := xs.map en) ho hc.1 (by rw [List.length_map]; exact hc.2.1) (by rw [List.length_map]; exact hc.2.2) ?_ hl1 hl hp hs
    have e : (xs.eraseIdx i.toNat).map en = (xs.map en).eraseIdx i.toNat := by simp [List.eraseIdx_eq_take_drop_succ]
    rw [← e]; exact hr
  · cases h
theorem dat_TD {xs : List PyData} (h : PE X e (tD X.K F Γ (.dat (.tuple xs)) Γ1)) : PE X e (tD X.K F Γ (.dat (eT eD xs)) Γ1) := by
  have : xs.map eD = xs := List.map_id' xs
  show PE X e (tD X.K F Γ (.dat (.tuple (xs.map eD))) Γ1)
  rw [this]; exact h
theorem dat_LD {xs : List PyData} (h : PE X e (tD X.K F Γ (.dat (.list xs)) Γ1)) : PE X e (tD X.K F Γ (.dat (eL eD xs)) Γ1) := by
  have : xs.map eD = xs := List.map_id' xs
  show PE X e (tD X.K F Γ (.dat (.list (xs.map eD))) Γ1)
  rw [this]; exact h
end
section
variable {X : Cx} {F : Fx} {W : WX} {Γ Γ1 Γ2 : List Sl} {P : Out → Prop} {rest body : List Stmt} {e a b c elt iter tg : Expr} {ifs : List Expr} {pos pos' : Pos} {ds xs : List PyData} {scope : Scope} {own : List (Str × Nat)} {g : TG} {A : PyData → List Sl → List Sl → Prop}
theorem lr_lc2 (V : Nat → List PyData → List Sl → Prop) (hi : PI X tg iter (tI X.K F Γ ds Γ1)) (T : Tgt X.K F g (own.map (·.2)) A) (hN : X.N.Nodup) (ok : BlkOk X.N X.env.scope scope own)
    (hg : ∀ (s : Shared) (H : Hp) (C : Addr) (cl : List (Str × Addr)) (fp : List Addr), PG (X.blk s H scope (compEnvC scope cl C X.env) fp) tg g)
    (h0 : V 0 [] (wpG Γ1 (own.map (·.2)))) (hz : ds.length < 100000)
    (turn : ∀ j d acc Γ, ds[j]? = some d → V j acc Γ → ∃ Γt Γq k, A d Γ Γt ∧ (∀ (s : Shared) (H : Hp) (C : Addr) (cl : List (Str × Addr)) (fp : List Addr), PTs (X.blk s H scope (compEnvC scope cl C X.env) fp) ifs (tDT X.K F Γt k Γq)) ∧
      (k = false → V (j + 1) acc (wpG Γq (own.map (·.2)))) ∧ (k = true → ∃ y Γ2, (∀ (s : Shared) (H : Hp) (C : Addr) (cl : List (Str × Addr)) (fp : List Addr), PE (X.blk s H scope (compEnvC scope cl C X.env) fp) elt (tD X.K F Γq (.dat y) Γ2)) ∧ V (j + 1) (acc ++ [y]) (wpG Γ2 (own.map (·.2)))))
    (done : ∀ acc Γ, V ds.length acc Γ → acc = xs ∧ Γ = Γ2) (hpf : (own.map (·.2)).all (pf F) = true := by rfl) : LcR X F Γ elt tg iter ifs scope own xs Γ2 := by
  have ht : ∀ (s : Shared) (H : Hp) (C : Addr) (cl : List (Str × Addr)) (fp : List Addr), PTs (X.blk s H scope (compEnvC scope cl C X.env) fp) ifs (fun σ H Q => ∃ Γt Γq k, (∀ (s : Shared) (H : Hp) (C : Addr) (cl : List (Str × Addr)) (fp : List Addr), PTs (X.blk s H scope (compEnvC scope cl C X.env) fp) ifs (tDT X.K F Γt k Γq)) ∧ tDT X.K F Γt k Γq σ H Q) :=
    fun s H C cl fp => ⟨fun pins s' σ H' Q I ⟨Γt, Γq, k, h, q⟩ => (h s H C cl fp).run pins s' σ H' Q I q⟩
  have he : ∀ (s : Shared) (H : Hp) (C : Addr) (cl : List (Str × Addr)) (fp : List Addr), PE (X.blk s H scope (compEnvC scope cl C X.env) fp) elt (fun σ H Q => ∃ Γt y Γ2, (∀ (s : Shared) (H : Hp) (C : Addr) (cl : List (Str × Addr)) (fp : List Addr), PE (X.blk s H scope (compEnvC scope cl C X.env) fp) elt (tD X.K F Γt (.dat y) Γ2)) ∧ tD X.K F Γt (.dat y) Γ2 σ H Q) :=
    fun s H C cl fp => ⟨fun pins s' σ H' Q I ⟨Γt, y, Γ2, h, q⟩ => (h s H C cl fp).run pins s' σ H' Q I q⟩
  refine ⟨_, _, _, _, hN, hi, ok, hg, ht, he, fun σ H Q ⟨G, E, q⟩ => ⟨G, E, fun J H1 G1 s1 E1 it D hD => ?_⟩⟩
  have HD := fre_of s1 E1 hD
  have d0 := E1.no hD
  have E1' := E1.newRaw (o := .lst []) hD
  have nO : ¬ Own σ Γ1 D := own_ne s1 E HD.1
  -- the state between the turns
  refine ⟨fun i m H' => m = ds.length - i ∧ i ≤ ds.length ∧ ∃ acc Γ' G' vs, V i acc Γ' ∧ (∀ v ∈ own.map (·.2), lk Γ' v = .no) ∧ Step σ Γ1 Γ' G1 H1 G' H' ∧ En X.K F G' (L2.wipe σ (own.map (·.2))) H' Γ' ∧ G' D = none ∧ H' D = some (.lst vs) ∧ DqAll X.K G' vs acc ∧ acc.length ≤ i, ?_, ?_⟩
  · refine ⟨ds.length, by simp, Nat.zero_le _, [], _, G1, [], h0, fun v hv => lk_wpG hv, ?_, E1'.wipe _ hpf, (E1.no hD).2.2, upd_same, .nil, Nat.le_refl _⟩
    exact (Step.newRaw (σ := σ) (Γ := Γ1) hD).out (fun _ z => z) (fun _ _ => rfl)
  · rintro i m H' ⟨rfl, hle, acc, Γ', G', vs, hV, hno, sp, E', gD, hD', al, hlen⟩
    have leH : Same G1 H' := fun a o h => E'.le a o (sp.g a o h)
    by_cases hlt : i < ds.length
    · refine .inr ⟨it.go i H' leH hlt, fun H'' => i + 1 ≤ ds.length ∧ ∃ acc Γ' G' vs, V (i + 1) acc Γ' ∧ (∀ v ∈ own.map (·.2), lk Γ' v = .no) ∧ Step σ Γ1 Γ' G1 H1 G' H'' ∧ En X.K F G' (L2.wipe σ (own.map (·.2))) H'' Γ' ∧ G' D = none ∧ H'' D = some (.lst vs) ∧ DqAll X.K G' vs acc ∧ acc.length ≤ i + 1, fun H'' h'' => ⟨ds.length - (i + 1), by omega, rfl, h''⟩, fun x H2 y => ?_⟩
      obtain ⟨d, hd, alt⟩ := it.yl i H' G' x H2 sp.g E'.le hlt y
      obtain ⟨Γt, Γq, k, hA, pT, hn, hy⟩ := turn i d acc Γ' hd hV
      obtain ⟨G3, s3, E3, hx, gD3, hD3⟩ : ∃ G3, (∀ τ, Step τ Γ' Γ' G' H' G3 H2) ∧ En X.K F G3 (L2.wipe σ (own.map (·.2))) H2 Γ' ∧ Dq X.K G3 x d ∧ G3 D = none ∧ H2 D = some (.lst vs) := by
        rcases alt with ⟨rfl, hx⟩ | ⟨p, o, hp, ho, rfl, hx⟩
        · exact ⟨G', fun τ => Step.refl, E', hx, gD, hD'⟩
        · have ne : D ≠ p := ne_of_none hD' hp
          exact ⟨_, fun τ => Step.newDat hp (E'.no hp).2.2, E'.newDat hp ho, hx, by rw [upd_ne ne]; exact gD, by rw [upd_ne ne]; exact hD'⟩
      refine T.run G3 H2 _ Γ' Γt x d _ E3 hx hA fun σ2 E4 hl2 hag hown => ?_
      have hag2 : ∀ i, i ∉ own.map (·.2) → σ2[i]? = σ[i]? := fun i hi => by rw [hag i hi, wipe_out hi]
      have hO : ∀ a, Own σ2 Γt a → Own σ Γ' a := fun a z => (own_wipe hno).mp (hown a z)
      have hw : L2.wipe σ2 (own.map (·.2)) = L2.wipe σ (own.map (·.2)) := wipe_same (by rw [hl2, wipe_length]) hag2
      have nOt : ¬ Own σ2 Γt D := fun z => nO (sp.o D (hO D z))
      have al3 : DqAll X.K G3 vs acc := dpa_mono (s3 σ).g _ _ al
      refine ⟨hw, Γt, Γq, k, pT, G3, E4, fun H5 G5 s5 E5 => ?_⟩
      have hD5 : H5 D = some (.lst vs) := s5.k D _ hD3 nOt noTb_lst
      have gD5 : G5 D = none := by
        cases z : G5 D with
        | none => rfl
        | some o =>
          rcases s5.f D o z with ⟨o', z'⟩ | z'
          · rw [gD3] at z'; cases z'
          · exact (z' _ hD3).elim
      cases k with
      | false =>
        refine iteF ?_
        have E6 := E5.wipe (own.map (·.2)) hpf
        rw [hw] at E6
        exact ⟨hlt, acc, _, G5, vs, hn rfl, fun v hv => lk_wpG hv, sp.trans ((s3 σ).trans (s5.out hO hag2)), E6, gD5, hD5, dpa_mono s5.g _ _ al3, by omega⟩
      | true =>
        refine iteT ?_
        obtain ⟨yv, Γ3, pE, hV3⟩ := hy rfl
        refine ⟨Γq, yv, Γ3, pE, G5, E5, fun v H6 G6 s6 E6 v6 => ?_⟩
        have s56 := s5.trans s6
        have hD6 : H6 D = some (.lst vs) := s6.k D _ hD5 (fun z => nOt (s5.o D z)) noTb_lst
        have gD6 : G6 D = none := by
          cases z : G6 D with
          | none => rfl
          | some o =>
            rcases s6.f D o z with ⟨o', z'⟩ | z'
            · rw [gD5] at z'; cases z'
            · exact (z' _ hD5).elim
        have lv : vs.length = acc.length := dpa_len al
        refine ⟨vs, hD6, by rw [lv]; exact Nat.lt_of_lt_of_le (Nat.lt_of_le_of_lt hlen (Nat.lt_trans hlt hz)) (by decide), hlt, acc ++ [yv], _, G6, vs ++ [v], hV3, fun v hv => lk_wpG hv, ?_, ?_, gD6, upd_same, dpa_app (dpa_mono s56.g _ _ al3) (.cons v6 .nil), by rw [List.length_append]; simp; omega⟩
        · have S := sp.trans ((s3 σ).trans (s56.out hO hag2))
          refine ⟨S.g, S.f, fun a o h n t => ?_, S.o, fun a us h => ?_⟩
          · rw [upd_ne (ne_of_none h hD)]; exact S.k a o h n t
          · rw [upd_ne (ne_of_none h hD)]; exact S.s a us h
        · have E7 := (E6.raw (o := .lst (vs ++ [v])) hD6 gD6 (fun z => nOt (s56.o D z)) d0.1 d0.2.1).wipe (own.map (·.2)) hpf
          rw [hw] at E7
          exact E7
    · have e : i = ds.length := by omega
      subst e
      obtain ⟨e1, e2⟩ := done acc Γ' hV
      subst e1 e2
      exact .inl ⟨it.stop _ H' leH (Nat.le_refl _), q D vs H' G' (s1.trans sp) (E'.unwipe hno) HD gD hD' al⟩
theorem pts_if2 {k : Bool} {Γa Γb : List Sl} (h : PT X c (tDT X.K F Γa k Γb)) : PTs X [c] (tDT X.K F Γa k Γb) := pts_one h
end
section
variable {X : Cx} {F : Fx} {Γ Γ1 Γ2 : List Sl} {a b c e elt iter tg : Expr} {pos p p2 : Pos} {scope : Scope} {own : List (Str × Nat)} {g : TG} {A : PyData → List Sl → List Sl → Prop} {α β : Type} {en : α → PyData} {em : β → PyData} {xs : List α} {ys : List β}
theorem y_lcfB (q : Bag → α → Option (Bool × Bag)) (f : Bag → α → Option (β × Bag)) (Γb : Bag → List Sl) {b0 : Bag} {r : List β × Bag} (h : filBC q f xs b0 = some r) (hi : PI X tg iter (tI X.K F Γ (xs.map en) Γ1)) (T : Tgt X.K F g (own.map (·.2)) A) (hN : X.N.Nodup) (ok : BlkOk X.N X.env.scope scope own)
    (hg : ∀ (s : Shared) (H : Hp) (C : Addr) (cl : List (Str × Addr)) (fp : List Addr), PG (X.blk s H scope (compEnvC scope cl C X.env) fp) tg g)
    (turn : ∀ b x k, q b x = some k → ∃ Γt Γq, A (en x) (Γb b) Γt ∧ wpG Γq (own.map (·.2)) = Γb k.2 ∧ (∀ (s : Shared) (H : Hp) (C : Addr) (cl : List (Str × Addr)) (fp : List Addr), PT (X.blk s H scope (compEnvC scope cl C X.env) fp) c (tDT X.K F Γt k.1 Γq)) ∧
      ∀ y, k.1 = true → f k.2 x = some y → ∃ Γu, wpG Γu (own.map (·.2)) = Γb y.2 ∧ ∀ (s : Shared) (H : Hp) (C : Addr) (cl : List (Str × Addr)) (fp : List Addr), PE (X.blk s H scope (compEnvC scope cl C X.env) fp) elt (tD X.K F Γq (.dat (em y.1)) Γu))
    (h1 : wpG Γ1 (own.map (·.2)) = Γb b0 := by rfl) (hpf : (own.map (·.2)).all (pf F) = true := by rfl) :
    LcR X F Γ elt tg iter [c] scope own (r.1.map em) (Γb r.2) := by
  unfold filBC at h
  split at h
  · rename_i hz
    refine lr_lc2 (own := own) (A := A) (fun j acc Γ => ∃ w, filBO q f (xs.take j) b0 = some w ∧ acc = w.1.map em ∧ Γ = Γb w.2) hi T hN ok hg ⟨([], b0), rfl, rfl, h1⟩ (by rw [List.length_map]; exact hz) (fun j d acc Γ hd ⟨w, e0, e1, e2⟩ => ?_) (fun acc Γ ⟨w, e0, e1, e2⟩ => ?_) hpf
    · subst e1 e2
      rw [List.getElem?_map] at hd
      obtain ⟨x, hx, rfl⟩ := Option.map_eq_some_iff.mp hd
      have e3 : xs.take (j + 1) = xs.take j ++ [x] := by rw [List.take_add_one, hx]; rfl
      have h' := h
      rw [← List.take_append_drop (j + 1) xs, filBO_app] at h'
      obtain ⟨w2, hw, _⟩ := bs h'
      have hw' := hw
      rw [e3, filBO_app, e0] at hw
      simp only [Option.bind_some] at hw
      obtain ⟨z, hz2, hw⟩ := bs hw
      obtain ⟨k, hk, hz2⟩ := bs hz2
      obtain ⟨Γt, Γq, hA, hwp, ht, he⟩ := turn w.2 x k hk
      refine ⟨Γt, Γq, k.1, hA, fun s H C cl fp => pts_if2 (ht s H C cl fp), fun h0 => ⟨w2, hw', ?_, ?_⟩, fun h1 => ?_⟩
      · rw [if_neg (by rw [h0]; decide)] at hz2
        cases hz2
        cases hw
        simp
      · rw [if_neg (by rw [h0]; decide)] at hz2
        cases hz2
        cases hw
        exact hwp
      · rw [if_pos h1] at hz2
        obtain ⟨y, hy, hz3⟩ := bs hz2
        obtain ⟨v, hv, hz4⟩ := bs hz3
        cases hv
        cases hz4
        cases hw
        obtain ⟨Γu, hu, hE⟩ := he y h1 hy
        exact ⟨em y.1, Γu, hE, _, hw', by rw [List.map_append]; rfl, hu⟩
    · rw [List.length_map, List.take_length, h] at e0
      cases e0
      exact ⟨e1, e2⟩
  · cases h
end
structure LkE {α : Type} (e : α → PyData) : Prop where
  al : ∀ x y, PySem.W.alike (e x) (e y) = true
  nn : ∀ x, e x ≠ .none
theorem lkE_int : LkE PyData.int := ⟨fun _ _ => rfl, fun _ h => by cases h⟩
theorem alikeAll_E {α : Type} {e : α → PyData} (h : LkE e) : ∀ as bs : List α, PySem.W.alikeAll (as.map e) (bs.map e) = true
  | [], _ => by simp [PySem.W.alikeAll]
  | _ :: _, [] => by simp [PySem.W.alikeAll]
  | a :: as, b :: bs => by simp only [List.map_cons, PySem.W.alikeAll, h.al, alikeAll_E h as bs, Bool.and_true]
theorem LkE.T {α : Type} {e : α → PyData} (h : LkE e) : LkE (eT e) := ⟨fun x y => by simp only [eT, PySem.W.alike]; exact alikeAll_E h x y, fun _ h => by cases h⟩
theorem LkE.P {α β : Type} {e : α → PyData} {f : β → PyData} (h : LkE e) (h2 : LkE f) : LkE (eP e f) := ⟨fun x y => by simp only [eP, PySem.W.alike, PySem.W.alikeAll, h.al, h2.al, Bool.and_true], fun _ h => by cases h⟩
def rLeD (K : PySem.W.Frag) : R2 := fun x y H Q => ∃ d e, Dp K H x d ∧ Dp K H y e ∧ PySem.W.alike d e = true ∧ d ≠ .none ∧ d.depth ≤ 64 ∧ Q (.bl (!PySem.W.dataLt e d)) H
theorem op_leD {X : Cx} (hu : X.A.units + 64 < cLine) : OpR X (compareOp .LtE) (rLeD X.K) := by
  intro pins s σ H x y v u Q I rx ry h
  obtain ⟨d, e, hd, he, ha, hn, hdep, q⟩ := h
  obtain ⟨as, r1⟩ := Dp.reads I d x v hd rx
  obtain ⟨bs, r2⟩ := Dp.reads I e y u he ry
  exact PySem.W.le_data r1 r2 ha hn (by have := Nat.min_le_left d.depth e.depth; omega) ⟨.bl _, H, I, rfl, q⟩
section
variable {X : Cx} {F : Fx} {Γ Γ1 Γ2 : List Sl} {a b : Expr} {pos : Pos} {ra rb : Rv} {da db : PyData} {k : Nat} {α : Type} {en : α → PyData}
theorem rd_leD {K : PySem.W.Frag} (va : vw Γ ra = some da) (vb : vw Γ rb = some db) (h1 : PySem.W.alike da db = true) (h2 : da ≠ .none) (h3 : da.depth ≤ 64) : RD2 K F Γ (rLeD K) ra rb (.dat (.bool (!PySem.W.dataLt db da))) := fun G H σ x y Q E vx vy k =>
  ⟨da, db, dq_dp _ _ (E.view vx va), dq_dp _ _ (E.view vy vb), h1, h2, h3, k _ H G Step.refl E (.bl _)⟩
theorem y_leD {n : Nat} {x y : α} (E : LkE en) (S : ShE en n) (hr : Room k X.A) (ha : PE X a (tD X.K F Γ ra Γ1)) (hb : PE X b (tD X.K F Γ1 rb Γ2)) (va : vw Γ2 ra = some (en x) := by rfl) (vb : vw Γ2 rb = some (en y) := by rfl) (hn : n ≤ 64 := by decide) : PE X (.Compare a [.LtE] [b] pos) (tD X.K F Γ (.dat (.bool (!PySem.W.dataLt (en y) (en x)))) Γ2) := de_cmp (op_leD hr.units) (rd_leD va vb (E.al x y) (E.nn x) (Nat.le_trans (S.dep x) hn)) ha hb (nomark _)
theorem y_tleD {n : Nat} {x y : α} (E : LkE en) (S : ShE en n) (hr : Room k X.A) (ha : PE X a (tD X.K F Γ ra Γ1)) (hb : PE X b (tD X.K F Γ1 rb Γ2)) (va : vw Γ2 ra = some (en x) := by rfl) (vb : vw Γ2 rb = some (en y) := by rfl) (hn : n ≤ 64 := by decide) : PT X (.Compare a [.LtE] [b] pos) (tDT X.K F Γ (!PySem.W.dataLt (en y) (en x)) Γ2) := dt_cmp (op_leD hr.units) (rd_leD va vb (E.al x y) (E.nn x) (Nat.le_trans (S.dep x) hn)) ha hb (nomark _)
end
section
variable {X : Cx} {F : Fx} {K : PySem.W.Frag} {Γ Γ1 Γ2 : List Sl} {a b : Expr} {pos p : Pos} {ra rb : Rv} {ns : List Int} {m : Int}
theorem rc_minL (h : ns.min? = some m) (va : vw Γ ra = some (.list (ns.map .int))) : RDC K F Γ (rMin K) [ra] (.dat (.int m)) := fun G H σ vs Q E pv k => by
  obtain ⟨v, rfl, h'⟩ := paired1 pv
  obtain ⟨p, vs, rfl, alt, al⟩ := seq_of E h' va rfl
  rcases alt with ⟨_, q⟩ | ⟨e, _⟩
  · rw [dpa_ints al] at q
    have hm := List.min?_eq_some_iff.mp h
    refine ⟨p, ns, rfl, .inl q, List.length_pos_of_mem hm.1, fun m' h1 h2 => ?_⟩
    have : m' = m := Int.le_antisymm (h2 m hm.1) (hm.2 m' h1)
    rw [this]
    exact k _ H G Step.refl E (.int _)
  · cases e
theorem rc_maxL (h : ns.max? = some m) (va : vw Γ ra = some (.list (ns.map .int))) : RDC K F Γ (rMax K) [ra] (.dat (.int m)) := fun G H σ vs Q E pv k => by
  obtain ⟨v, rfl, h'⟩ := paired1 pv
  obtain ⟨p, vs, rfl, alt, al⟩ := seq_of E h' va rfl
  rcases alt with ⟨_, q⟩ | ⟨e, _⟩
  · rw [dpa_ints al] at q
    have hm := List.max?_eq_some_iff.mp h
    refine ⟨p, ns, rfl, .inl q, List.length_pos_of_mem hm.1, fun m' h1 h2 => ?_⟩
    have : m' = m := Int.le_antisymm (hm.2 m' h1) (h2 m hm.1)
    rw [this]
    exact k _ H G Step.refl E (.int _)
  · cases e
theorem y_minL (ha : PE X a (tD X.K F Γ ra Γ1)) (h : ns.min? = some m) (hm : X.mg "min" = none) (va : vw Γ1 ra = some (.list (ns.map .int)) := by rfl) (hc : X.calm = true := by rfl) (hg : Gl X "min" := by rfl) (he : starEach [a] X.env = (false, eval a X.env) :: starEach [] X.env := by rfl) : PE X (.Call (.Name "min" p) [a] [] pos) (tD X.K F Γ (.dat (.int m)) Γ1) :=
  de_callB (cr_min hc) (rc_minL h va) (da_cons ha da_nil he) hm (by decide +kernel) hg (he := he)
theorem y_maxL (ha : PE X a (tD X.K F Γ ra Γ1)) (h : ns.max? = some m) (hm : X.mg "max" = none) (va : vw Γ1 ra = some (.list (ns.map .int)) := by rfl) (hc : X.calm = true := by rfl) (hg : Gl X "max" := by rfl) (he : starEach [a] X.env = (false, eval a X.env) :: starEach [] X.env := by rfl) : PE X (.Call (.Name "max" p) [a] [] pos) (tD X.K F Γ (.dat (.int m)) Γ1) :=
  de_callB (cr_max hc) (rc_maxL h va) (da_cons ha da_nil he) hm (by decide +kernel) hg (he := he)
end
end AM

set_option Elab.async false
set_option linter.all false
set_option maxRecDepth 100000
set_option maxHeartbeats 2000000
namespace AM
open PySem PySem.Spec PyProof.Rows L2
section
variable {X : Cx} {F : Fx} {W : WX} {P : Out → Prop} {Γ Γ1 Γ2 Γ3 : List Sl} {a b c e e2 ix o : Expr} {es : List Expr} {pos pos' p p2 p3 : Pos} {k : Nat} {rest : List Stmt} {ra rb : Rv} {i j m : Int} {α β : Type} {en : α → PyData} {em : β → PyData} {d : PyData}
theorem y_lcount {ns : List Int} {apos epos : Pos} (hp : PE X (.Call (.Attribute o "count" apos) [e] [] epos) (tBM X.K "list" (rCntI X.K) (tD X.K F Γ ra Γ1) (tCons (tD X.K F Γ1 (.dat (.int i)) Γ2) tNil))) (va : vw Γ1 ra = some (.list (ns.map .int)) := by rfl) (va2 : vw Γ2 ra = some (.list (ns.map .int)) := by rfl) :
    PE X (.Call (.Attribute o "count" apos) [e] [] epos) (tD X.K F Γ (.dat (.int ((ns.count i : Nat) : Int))) Γ2) :=
  pe_imp hp fun σ H Q ⟨G, E, q⟩ => ⟨G, E, fun v H1 G1 s1 E1 v1 => by
    obtain ⟨p1, vs, rfl, alt, al⟩ := seq_of E1 v1 va rfl
    have r1 : Rd H1 p1 (.lst vs) := by
      rcases alt with ⟨_, z⟩ | ⟨z, _⟩
      · exact z
      · cases z
    refine ⟨Or.inl ⟨rfl, vs, .inl r1⟩, G1, E1, fun w H2 G2 s2 E2 v2 => ?_⟩
    have v12 : VR X.K G2 σ (.ref p1) ra := by
      cases ra with
      | dat d' => exact dp_mono s2.g _ _ v1
      | al i => exact v1
    obtain ⟨p2, vs2, e2, alt2, al2⟩ := seq_of E2 v12 va2 rfl
    cases e2
    have r2 : Rd H2 p1 (.lst vs2) := by
      rcases alt2 with ⟨_, z⟩ | ⟨z, _⟩
      · exact z
      · cases z
    rw [dpa_ints al2] at r2
    exact ⟨p1, ns, i, rfl, by rw [dp_int v2], .inl r2, q _ H2 G2 (s1.trans s2) E2 (.int _)⟩⟩
theorem dn_rep2 {as : List PyData} (ha : PE X a (tN X.K F Γ as Γ1)) (hb : PE X b (tD X.K F Γ1 (.dat (.int m)) Γ2)) (h1 : -(2 ^ 63) ≤ m) (h2 : m < 2 ^ 63) (hz : as.length * m.toNat ≤ 100000) : PE X (.BinOp a .Mult b pos) (tN X.K F Γ (List.replicate m.toNat as).flatten Γ2) :=
  pe_imp (pe_op op_rep ha hb) fun σ H Q ⟨G, E, q⟩ => ⟨G, E, fun p vs H1 G1 s1 E1 fr gp hp al => ⟨G1, E1, fun y H2 G2 s2 E2 vy => by
    have nO : ¬ Own σ Γ1 p := own_ne s1 E fr.1
    have hp2 : H2 p = some (.lst vs) := s2.k p _ hp nO noTb_lst
    exact rn_rep h1 h2 hz trivial G2 H2 σ _ y Q E2 ⟨p, vs, rfl, hp2, dpa_mono s2.g _ _ al⟩ vy fun p' vs' H3 G3 s3 E3 f3 g3 h3 a3 => q p' vs' H3 G3 ((s1.trans s2).trans s3) E3 (f3.back (s1.trans s2)) g3 h3 a3⟩⟩
theorem y_repL2 {xs zs : List α} (ha : PE X a (tN X.K F Γ (xs.map en) Γ1)) (hb : PE X b (tD X.K F Γ1 (.dat (.int m)) Γ2)) (h : repL xs m = some zs) : PE X (.BinOp a .Mult b pos) (tN X.K F Γ (zs.map en) Γ2) := by
  unfold repL at h
  split at h
  · rename_i hc
    cases h
    rw [← repl_map]
    exact dn_rep2 ha hb hc.1 hc.2.1 (by rw [List.length_map]; exact hc.2.2)
  · cases h
end
end AM

set_option Elab.async false
set_option linter.all false
set_option maxRecDepth 100000
set_option maxHeartbeats 2000000
namespace AM
open PySem PySem.Spec PyProof.Rows L2
structure KwB (K : PySem.W.Frag) (fd : FuncData) (ps : List Str) (n : Nat) (ks : List Str) (gV : List V → List V → List V) : Prop where
  ex : ∃ g, KBn K fd ps n ks g gV
structure DefK (K : PySem.W.Frag) (mg : Str → Option Value) (x : Str) (st : Stmt) (ps : List Str) (k1 k2 : Str) : Prop where
  ex : ∃ f fd ds, FunG K x x st f fd ∧ mg x = some (.ref f) ∧ Vals [.non, .non] ds ∧ Binds K fd ps ds ∧ KwB K fd ps 1 [k1, k2] (fun vs zs => vs ++ zs) ∧ KwB K fd ps 1 [k1] (fun vs zs => vs ++ zs ++ [.non]) ∧ KwB K fd ps 1 [k2] (fun vs zs => vs ++ .non :: zs) ∧ KwB K fd ps 1 [k2, k1] (fun vs zs => vs ++ zs.reverse)
structure CalK (P : Program) (w : World) (K : PySem.W.Frag) (mg : Str → Option Value) (base : Heap) (k : Nat) (x : Str) (ps : List Str) (sp : Sp) (k1 k2 : Str) : Prop where
  ex : ∃ f fd ds, FnOk P w K mg base (L2.CX P w) k f fd ps sp ∧ mg x = some (.ref f) ∧ PySem.W.keepIn K (.ref f) = true ∧ Vals [.non, .non] ds ∧ Binds K fd ps ds ∧ KwB K fd ps 1 [k1, k2] (fun vs zs => vs ++ zs) ∧ KwB K fd ps 1 [k1] (fun vs zs => vs ++ zs ++ [.non]) ∧ KwB K fd ps 1 [k2] (fun vs zs => vs ++ .non :: zs) ∧ KwB K fd ps 1 [k2, k1] (fun vs zs => vs ++ zs.reverse)
section
variable {P : Program} {w : World} {K : PySem.W.Frag} {mg : Str → Option Value} {base : Heap} {j k n : Nat} {x k1 k2 : Str} {N ps ks : List Str} {sp : Sp} {st : Stmt}
theorem CalK.mono (C : CalK P w K mg base j x ps sp k1 k2) (h : j ≤ k) : CalK P w K mg base k x ps sp k1 k2 := by
  obtain ⟨f, fd, ds, h1, r⟩ := C.ex
  exact ⟨f, fd, ds, h1.mono h, r⟩
theorem CalK.dflt (C : CalK P w K mg base k x ps sp k1 k2) : CalD P w K mg base k x ps sp [.non, .non] := by
  obtain ⟨f, fd, ds, h1, h2, h3, h4, h5, _⟩ := C.ex
  exact ⟨f, fd, ds, h1, h2, h3, h5, h4⟩
theorem cal_pureK {R : List PyData → Res → Prop} (D : DefK K mg x st ps k1 k2) (S : FnScope N ps (defScope st)) (len : ∀ ds r, R ds r → ds.length = ps.length) (hle : ps.length ≤ N.length)
    (body : ∀ (f : Addr) (cdv : Value) (A : Around) (outer : List PySem.Env) (s : Shared) (H G : Hp) (E : XK) (ds : List PyData) (r : Res), Room k (A.deeper (envOfC x (defScope st) s.heap.objs.size f cdv)) → R ds r →
      PSs (cxOf (L2.CX P w) P w K mg base N x (defScope st) f cdv A outer s H E) (defBody st) (tS K (fx0 H G) (fun c d _ H => E c d H) (startG N.length ds) (wantP r))) : CalK P w K mg base (k + 1) x ps (spP K R) k1 k2 := by
  obtain ⟨f, fd, ds, F, h1, h2, h3, h4⟩ := D.ex
  exact ⟨f, fd, ds, fn_pure F S len hle (body f), h1, F.kp, h2, h3, h4⟩
end
theorem vals_rev : ∀ {vs : List V} {us : List Value}, Vals vs us → Vals vs.reverse us.reverse
  | _, _, .nil => .nil
  | _, _, .cons q r => by
    rw [List.reverse_cons, List.reverse_cons]
    exact (vals_rev r).append (.cons q .nil)
theorem nn_dp (K : PySem.W.Frag) (G : Hp) : DqAll K G [.non, .non] [.none, .none] := .cons .non (.cons .non .nil)
section
variable {X : Cx} {F : Fx} {W : WX} {Γ Γ1 Γ2 Γ3 : List Sl} {a b b2 c e : Expr} {es : List Expr} {pos pos' p p2 : Pos} {k n : Nat} {x k1 k2 : Str} {ps : List Str} {C : Addr} {d d0 d2 d3 : PyData} {R : List PyData → Res → Prop}
theorem dck0 (Cf : CalK X.prog X.w X.K X.mg X.base k x ps (spP X.K R) k1 k2) (hr : Room k X.A) (ha : PE X e (tD X.K F Γ (.dat d0) Γ1)) (hR : R [d0, .none, .none] (.ok d)) (hg : Gl X x := by rfl) (hdb : (x == ("__debug__" : Str)) = false := by decide) (he : starEach [e] X.env = (false, eval e X.env) :: starEach [] X.env := by rfl) :
    PE X (.Call (.Name x p) [e] [] pos) (tD X.K F Γ (.dat d) Γ1) := dcD (dds := [.none, .none]) (ds := [d0]) Cf.dflt hr (da_cons ha da_nil he) hR (fun G => nn_dp _ G) rfl hg hdb he
theorem kw1 {f : Addr} {fd : FuncData} {sp : Sp} {nm : Option Str} {kpos : Pos} {ks : List Str} {gV : List V → List V → List V} {gD : List PyData → List PyData → List PyData} (h1 : FnOk X.prog X.w X.K X.mg X.base (L2.CX X.prog X.w) k f fd ps (spP X.K R)) (h2 : X.mg x = some (.ref f)) (h3 : PySem.W.keepIn X.K (.ref f) = true) (B : KwB X.K fd ps 1 ks gV) (hgD : ∀ G vs zs ds es, DqAll X.K G vs ds → DqAll X.K G zs es → DqAll X.K G (gV vs zs) (gD ds es))
    (hr : Room k X.A) (ha : PE X e (tD X.K F Γ (.dat d0) Γ1)) (hb : PE X b (tD X.K F Γ1 (.dat d2) Γ2)) (hR : R (gD [d0] [d2]) (.ok d)) (hks : ks.length = 1)
    (hg : Gl X x := by rfl) (hall : (backToKw pos (keywordEach [⟨nm, b, kpos⟩] X.env)).all (·.1.isSome) = true := by rfl) (hks2 : (backToKw pos (keywordEach [⟨nm, b, kpos⟩] X.env)).filterMap (·.1) = ks := by rfl)
    (hdb : (x == ("__debug__" : Str)) = false := by decide) (he : starEach [e] X.env = (false, eval e X.env) :: starEach [] X.env := by rfl)
    (hpl : ((backTo pos (starEach [e] X.env)).any (·.1) || (backToKw pos (keywordEach [⟨nm, b, kpos⟩] X.env)).any (·.1.isNone)) = false := by rfl) :
    PE X (.Call (.Name x p) [e] [⟨nm, b, kpos⟩] pos) (tD X.K F Γ (.dat d) Γ2) := by
  obtain ⟨g, B⟩ := B.ex
  refine pe_imp (pe_callN (E := fun _ _ _ => False) h1 hr hg h2 h3 B (fun pins σ H s e s' I c => passes_call takes0 (fun _ _ _ _ h => h) pins σ H s e s' I c) (da_cons ha da_nil he) (pk_cons hb pk_nil) hall hks2 hdb he hpl) fun σ H Q ⟨G, E, q⟩ => ⟨G, E, fun vs H1 G1 s1 E1 v1 => ⟨G1, E1, fun v H2 G2 s2 E2 v2 => ?_⟩⟩
  have a1 := datS_dp v1 (ds := [d0]) rfl
  refine ⟨(dpa_len a1), hks.symm, G2, gD [d0] [d2], .ok d, E2.le, E2.nt, hgD _ _ _ _ _ (dpa_mono s2.g _ _ a1) (.cons v2 .nil), hR, fun v H' G' g hv => q v H' G' ((s1.trans s2).trans g.step) (E2.grown g) hv⟩
theorem kw2 {f : Addr} {fd : FuncData} {sp : Sp} {nm nm2 : Option Str} {kpos kpos2 : Pos} {ks : List Str} {gV : List V → List V → List V} {gD : List PyData → List PyData → List PyData} (h1 : FnOk X.prog X.w X.K X.mg X.base (L2.CX X.prog X.w) k f fd ps (spP X.K R)) (h2 : X.mg x = some (.ref f)) (h3 : PySem.W.keepIn X.K (.ref f) = true) (B : KwB X.K fd ps 1 ks gV) (hgD : ∀ G vs zs ds es, DqAll X.K G vs ds → DqAll X.K G zs es → DqAll X.K G (gV vs zs) (gD ds es))
    (hr : Room k X.A) (ha : PE X e (tD X.K F Γ (.dat d0) Γ1)) (hb : PE X b (tD X.K F Γ1 (.dat d2) Γ2)) (hb2 : PE X b2 (tD X.K F Γ2 (.dat d3) Γ3)) (hR : R (gD [d0] [d2, d3]) (.ok d)) (hks : ks.length = 2)
    (hg : Gl X x := by rfl) (hall : (backToKw pos (keywordEach [⟨nm, b, kpos⟩, ⟨nm2, b2, kpos2⟩] X.env)).all (·.1.isSome) = true := by rfl) (hks2 : (backToKw pos (keywordEach [⟨nm, b, kpos⟩, ⟨nm2, b2, kpos2⟩] X.env)).filterMap (·.1) = ks := by rfl)
    (hdb : (x == ("__debug__" : Str)) = false := by decide) (he : starEach [e] X.env = (false, eval e X.env) :: starEach [] X.env := by rfl)
    (hpl : ((backTo pos (starEach [e] X.env)).any (·.1) || (backToKw pos (keywordEach [⟨nm, b, kpos⟩, ⟨nm2, b2, kpos2⟩] X.env)).any (·.1.isNone)) = false := by rfl) :
    PE X (.Call (.Name x p) [e] [⟨nm, b, kpos⟩, ⟨nm2, b2, kpos2⟩] pos) (tD X.K F Γ (.dat d) Γ3) := by
  obtain ⟨g, B⟩ := B.ex
  refine pe_imp (pe_callN (E := fun _ _ _ => False) h1 hr hg h2 h3 B (fun pins σ H s e s' I c => passes_call takes0 (fun _ _ _ _ h => h) pins σ H s e s' I c) (da_cons ha da_nil he) (pk_cons hb (pk_cons hb2 pk_nil)) hall hks2 hdb he hpl) fun σ H Q ⟨G, E, q⟩ => ⟨G, E, fun vs H1 G1 s1 E1 v1 => ⟨G1, E1, fun v H2 G2 s2 E2 v2 => ⟨G2, E2, fun v' H3 G3 s3 E3 v3 => ?_⟩⟩⟩
  have a1 := datS_dp v1 (ds := [d0]) rfl
  refine ⟨(dpa_len a1), hks.symm, G3, gD [d0] [d2, d3], .ok d, E3.le, E3.nt, hgD _ _ _ _ _ (dpa_mono (s2.g.trans s3.g) _ _ a1) (.cons (dp_mono s3.g _ _ v2) (.cons v3 .nil)), hR, fun v H' G' g hv => q v H' G' (((s1.trans s2).trans s3).trans g.step) (E3.grown g) hv⟩
variable {nm nm2 : Option Str} {kpos kpos2 : Pos}
theorem dckA (Cf : CalK X.prog X.w X.K X.mg X.base k x ps (spP X.K R) k1 k2) (hr : Room k X.A) (ha : PE X e (tD X.K F Γ (.dat d0) Γ1)) (hb : PE X b (tD X.K F Γ1 (.dat d2) Γ2)) (hb2 : PE X b2 (tD X.K F Γ2 (.dat d3) Γ3)) (hR : R [d0, d2, d3] (.ok d))
    (hg : Gl X x := by rfl) (hall : (backToKw pos (keywordEach [⟨nm, b, kpos⟩, ⟨nm2, b2, kpos2⟩] X.env)).all (·.1.isSome) = true := by rfl) (hks2 : (backToKw pos (keywordEach [⟨nm, b, kpos⟩, ⟨nm2, b2, kpos2⟩] X.env)).filterMap (·.1) = [k1, k2] := by rfl)
    (hdb : (x == ("__debug__" : Str)) = false := by decide) (he : starEach [e] X.env = (false, eval e X.env) :: starEach [] X.env := by rfl)
    (hpl : ((backTo pos (starEach [e] X.env)).any (·.1) || (backToKw pos (keywordEach [⟨nm, b, kpos⟩, ⟨nm2, b2, kpos2⟩] X.env)).any (·.1.isNone)) = false := by rfl) :
    PE X (.Call (.Name x p) [e] [⟨nm, b, kpos⟩, ⟨nm2, b2, kpos2⟩] pos) (tD X.K F Γ (.dat d) Γ3) := by
  obtain ⟨f, fd, ds, h1, h2, h3, h4, h5, h6, h7, h8, h9⟩ := Cf.ex
  exact kw2 (sp := spP X.K R) (gD := fun a b => a ++ b) h1 h2 h3 h6 (fun G vs zs ds es r1 r2 => dpa_app r1 r2) hr ha hb hb2 hR rfl hg hall hks2 hdb he hpl
theorem dckL (Cf : CalK X.prog X.w X.K X.mg X.base k x ps (spP X.K R) k1 k2) (hr : Room k X.A) (ha : PE X e (tD X.K F Γ (.dat d0) Γ1)) (hb : PE X b (tD X.K F Γ1 (.dat d2) Γ2)) (hR : R [d0, d2, .none] (.ok d))
    (hg : Gl X x := by rfl) (hall : (backToKw pos (keywordEach [⟨nm, b, kpos⟩] X.env)).all (·.1.isSome) = true := by rfl) (hks2 : (backToKw pos (keywordEach [⟨nm, b, kpos⟩] X.env)).filterMap (·.1) = [k1] := by rfl)
    (hdb : (x == ("__debug__" : Str)) = false := by decide) (he : starEach [e] X.env = (false, eval e X.env) :: starEach [] X.env := by rfl)
    (hpl : ((backTo pos (starEach [e] X.env)).any (·.1) || (backToKw pos (keywordEach [⟨nm, b, kpos⟩] X.env)).any (·.1.isNone)) = false := by rfl) :
    PE X (.Call (.Name x p) [e] [⟨nm, b, kpos⟩] pos) (tD X.K F Γ (.dat d) Γ2) := by
  obtain ⟨f, fd, ds, h1, h2, h3, h4, h5, h6, h7, h8, h9⟩ := Cf.ex
  exact kw1 (sp := spP X.K R) (gD := fun a b => a ++ b ++ [PyData.none]) h1 h2 h3 h7 (fun G vs zs ds es r1 r2 => dpa_app (dpa_app r1 r2) (.cons .non .nil)) hr ha hb hR rfl hg hall hks2 hdb he hpl
theorem dckH (Cf : CalK X.prog X.w X.K X.mg X.base k x ps (spP X.K R) k1 k2) (hr : Room k X.A) (ha : PE X e (tD X.K F Γ (.dat d0) Γ1)) (hb : PE X b (tD X.K F Γ1 (.dat d2) Γ2)) (hR : R [d0, .none, d2] (.ok d))
    (hg : Gl X x := by rfl) (hall : (backToKw pos (keywordEach [⟨nm, b, kpos⟩] X.env)).all (·.1.isSome) = true := by rfl) (hks2 : (backToKw pos (keywordEach [⟨nm, b, kpos⟩] X.env)).filterMap (·.1) = [k2] := by rfl)
    (hdb : (x == ("__debug__" : Str)) = false := by decide) (he : starEach [e] X.env = (false, eval e X.env) :: starEach [] X.env := by rfl)
    (hpl : ((backTo pos (starEach [e] X.env)).any (·.1) || (backToKw pos (keywordEach [⟨nm, b, kpos⟩] X.env)).any (·.1.isNone)) = false := by rfl) :
    PE X (.Call (.Name x p) [e] [⟨nm, b, kpos⟩] pos) (tD X.K F Γ (.dat d) Γ2) := by
  obtain ⟨f, fd, ds, h1, h2, h3, h4, h5, h6, h7, h8, h9⟩ := Cf.ex
  exact kw1 (sp := spP X.K R) (gD := fun a b => a ++ PyData.none :: b) h1 h2 h3 h8 (fun G vs zs ds es r1 r2 => dpa_app r1 (.cons .non r2)) hr ha hb hR rfl hg hall hks2 hdb he hpl
end
theorem dat_LO {X : Cx} {F : Fx} {Γ Γ1 : List Sl} {e : Expr} {α : Type} {en : α → PyData} {xs : List α} (h : PE X e (tD X.K F Γ (.dat (eL en xs)) Γ1)) : PE X e (tD X.K F Γ (.dat (eL (eO en) (xs.map some))) Γ1) := by
  have : (xs.map some).map (eO en) = xs.map en := by rw [List.map_map]; rfl
  show PE X e (tD X.K F Γ (.dat (.list ((xs.map some).map (eO en)))) Γ1)
  rw [this]; exact h
def asOR : PyData → Option (Option (Int × Int))
  | .none => some none
  | .tuple [.int a, .int b] => some (some (a, b))
  | _ => none
theorem asOR_eq {d : PyData} {o : Option (Int × Int)} (h : asOR d = some o) : d = eO (eP PyData.int PyData.int) o := by
  unfold asOR at h
  split at h
  · cases h; rfl
  · cases h; rfl
  · cases h
end AM

set_option Elab.async false
set_option linter.all false
set_option maxRecDepth 100000
set_option maxHeartbeats 2000000
namespace AM
open PySem PySem.Spec PyProof.Rows L2
def catS (x y : Str) : Option Str := if x.length + y.length ≤ 100000 then some (x ++ y) else none
def strC (i : Int) : Option Str := if i.natAbs.log2 < 1920 then some (Str.ofString (toString i)) else none
def fitS (x : Str) : Option Str := if x.length ≤ 100000 then some x else none
def lenS (x : Str) : Option Int := if x.length ≤ 100000 then some (x.length : Int) else none
def ixS (x : Str) (i : Int) : Option Str := if 0 ≤ i ∧ i < 2 ^ 63 then x.cps[i.toNat]?.map fun c => ⟨#[c]⟩ else none
def slS (x : Str) (lo hi : Option Int) : Option Str := if x.length ≤ 100000 then some (cutS x lo hi) else none
def splitC (x y : Str) : Option (List Str) := if x.length ≤ 100000 ∧ (y.length == 0) = false then some (Txt.split x y) else none
def partC (x y : Str) : Option (Str × Str × Str) := if x.length ≤ 100000 ∧ (y.length == 0) = false then some (Txt.partition x y) else none
def intC (x : Str) : Option Int := if x.length ≤ 640 then intText? x else none
def replC (x y z : Str) : Option Str := if x.length + (x.length + 1) * z.length ≤ 100000 then some (Txt.replace x y z) else none
def eqE_str : EqE PyData.str := ⟨fun x y => by first | rfl | (show (x == y) = decide (x = y); simp)⟩
section
variable {X : Cx} {F : Fx} {W : WX} {P : Out → Prop} {Γ Γ1 Γ2 Γ3 : List Sl} {a b c e e2 ix o : Expr} {es : List Expr} {pos pos' p p2 p3 : Pos} {k : Nat} {rest : List Stmt} {ra rb : Rv} {i j m : Int} {x y z : Str}
theorem y_addS (ha : PE X a (tD X.K F Γ (.dat (.str x)) Γ1)) (hb : PE X b (tD X.K F Γ1 (.dat (.str y)) Γ2)) (h : catS x y = some z) : PE X (.BinOp a .Add b pos) (tD X.K F Γ (.dat (.str z)) Γ2) := by
  unfold catS at h
  split at h
  · rename_i hc
    cases h
    refine de_op (ra := .dat (.str x)) (rb := .dat (.str y)) op_add_str (fun G H σ v w Q E vx vy k => ?_) ha hb
    exact ⟨x, y, dp_str vx, dp_str vy, Nat.le_trans hc (by decide), k _ H G Step.refl E (.str _)⟩
  · cases h
theorem y_strI (ha : PE X a (tD X.K F Γ (.dat (.int i)) Γ1)) (h : strC i = some z) (hm : X.mg "str" = none) (hg : Gl X "str" := by rfl) (he : starEach [a] X.env = (false, eval a X.env) :: starEach [] X.env := by rfl) : PE X (.Call (.Name "str" p) [a] [] pos) (tD X.K F Γ (.dat (.str z)) Γ1) := by
  unfold strC at h
  split at h
  · rename_i hc
    cases h
    refine de_callTy call_str_int (fun G H σ vs Q E hv k => ?_) (da_cons ha da_nil he) hm (by decide +kernel) hg (he := he)
    cases hv with
    | cons h1 h2 =>
      cases h2
      exact ⟨i, by rw [dp_int h1], hc, k _ H G Step.refl E (.str _)⟩
  · cases h
theorem y_lenS (ha : PE X a (tD X.K F Γ (.dat (.str x)) Γ1)) (h : lenS x = some i) (B : Bt X.mg) (hg : Gl X "len" := by rfl) (he : starEach [a] X.env = (false, eval a X.env) :: starEach [] X.env := by rfl) : PE X (.Call (.Name "len" p) [a] [] pos) (tD X.K F Γ (.dat (.int i)) Γ1) := by
  unfold lenS at h
  split at h
  · rename_i hc
    cases h
    refine de_callB call_len_str (fun G H σ vs Q E hv k => ?_) (da_cons ha da_nil he) B.len PySem.boot_len hg (he := he)
    cases hv with
    | cons h1 h2 =>
      cases h2
      exact ⟨x, by rw [dp_str h1], Nat.le_trans hc (by decide), k _ H G Step.refl E (.int _)⟩
  · cases h
theorem y_ixS (ha : PE X a (tD X.K F Γ (.dat (.str x)) Γ1)) (hb : PE X b (tD X.K F Γ1 (.dat (.int i)) Γ2)) (h : ixS x i = some z) (hp : PlainIxT b := by exact fun _ _ => rfl) : PE X (.Subscript a b pos) (tD X.K F Γ (.dat (.str z)) Γ2) := by
  unfold ixS at h
  split at h
  · rename_i hc
    obtain ⟨c, h1, rfl⟩ := Option.map_eq_some_iff.mp h
    refine pe_imp (pe_item_str ha hb hp) fun σ H Q q => td_op (fun G H σ v w Q E vx vy k => ⟨x, i, c, dp_str vx, dp_int vy, hc.1, hc.2, ?_, h1, k _ H G Step.refl E (.str _)⟩) q
    have := (Array.getElem?_eq_some_iff.mp h1).1
    show i < ((x.cps.size : Nat) : Int)
    omega
  · cases h
theorem y_slS {lo hi : Option Expr} {l h : Option Int} (ha : PE X a (tD X.K F Γ (.dat (.str x)) Γ1)) (hl : PO X lo (tDO X.K F Γ1 l Γ2)) (hh : PO X hi (tDO X.K F Γ2 h Γ3)) (hz : slS x l h = some z) : PE X (.Subscript a (.Slice lo hi none p2) pos) (tD X.K F Γ (.dat (.str z)) Γ3) := by
  unfold slS at hz
  split at hz
  · rename_i hc
    cases hz
    exact pe_imp (pe_slice sl_str ha hl hh) fun σ H Q ⟨G, E, q⟩ => ⟨G, E, fun v H1 G1 s1 E1 v1 => ⟨G1, E1, fun H2 G2 s2 E2 => ⟨G2, E2, fun H3 G3 s3 E3 => ⟨x, dp_str v1, Nat.le_trans hc (by decide), q _ H3 G3 ((s1.trans s2).trans s3) E3 (.str _)⟩⟩⟩⟩
  · cases hz
theorem y_intS (ha : PE X a (tD X.K F Γ (.dat (.str x)) Γ1)) (h : intC x = some i) (hm : X.mg "int" = none) (hg : Gl X "int" := by rfl) (he : starEach [a] X.env = (false, eval a X.env) :: starEach [] X.env := by rfl) : PE X (.Call (.Name "int" p) [a] [] pos) (tD X.K F Γ (.dat (.int i)) Γ1) := by
  unfold intC at h
  split at h
  · rename_i hc
    refine de_callTy call_int_str (fun G H σ vs Q E hv k => ?_) (da_cons ha da_nil he) hm (by decide +kernel) hg (he := he)
    cases hv with
    | cons h1 h2 =>
      cases h2
      exact ⟨x, i, by rw [dp_str h1], h, hc, k _ H G Step.refl E (.int _)⟩
  · cases h
theorem y_isdigit {apos epos : Pos} (ho : PE X o (tD X.K F Γ (.dat (.str x)) Γ1)) (hbase : attributeBase o "isdigit" X.env (eval o X.env) = eval o X.env := by rfl) (hline : (apos.endLine == epos.line) = true := by rfl) : PE X (.Call (.Attribute o "isdigit" apos) [] [] epos) (tD X.K F Γ (.dat (.bool (Txt.isdigit x))) Γ1) :=
  pe_imp (pe_m0 PySem.F.slot_str_isdigit PySem.F.type_str_isdigit mt_isdigit ho hbase hline) fun σ H Q ⟨G, E, q⟩ => ⟨G, E, fun v H1 G1 s1 E1 v1 => ⟨⟨x, dp_str v1⟩, x, dp_str v1, rfl, trivial, q _ H1 G1 s1 E1 (.bl _)⟩⟩
theorem y_startswith {apos epos : Pos} (ho : PE X o (tD X.K F Γ (.dat (.str x)) Γ1)) (he : PE X e (tD X.K F Γ1 (.dat (.str y)) Γ2)) (hs : starEach [e] X.env = [(false, eval e X.env)] := by rfl) (hbase : attributeBase o "startswith" X.env (eval o X.env) = eval o X.env := by rfl) (hline : (apos.endLine == epos.line) = true := by rfl) : PE X (.Call (.Attribute o "startswith" apos) [e] [] epos) (tD X.K F Γ (.dat (.bool (Txt.startswith x y))) Γ2) :=
  pe_imp (pe_m1 PySem.F.slot_str_startswith PySem.F.type_str_startswith mt_startswith ho he hs hbase hline) fun σ H Q ⟨G, E, q⟩ => ⟨G, E, fun v H1 G1 s1 E1 v1 => ⟨⟨x, dp_str v1⟩, G1, E1, fun w H2 G2 s2 E2 v2 => ⟨x, y, dp_str v1, by rw [dp_str v2], q _ H2 G2 (s1.trans s2) E2 (.bl _)⟩⟩⟩
theorem y_find {apos epos : Pos} (ho : PE X o (tD X.K F Γ (.dat (.str x)) Γ1)) (he : PE X e (tD X.K F Γ1 (.dat (.str y)) Γ2)) (hs : starEach [e] X.env = [(false, eval e X.env)] := by rfl) (hbase : attributeBase o "find" X.env (eval o X.env) = eval o X.env := by rfl) (hline : (apos.endLine == epos.line) = true := by rfl) : PE X (.Call (.Attribute o "find" apos) [e] [] epos) (tD X.K F Γ (.dat (.int (Txt.find x y))) Γ2) :=
  pe_imp (pe_m1 PySem.F.slot_str_find PySem.F.type_str_find mt_find ho he hs hbase hline) fun σ H Q ⟨G, E, q⟩ => ⟨G, E, fun v H1 G1 s1 E1 v1 => ⟨⟨x, dp_str v1⟩, G1, E1, fun w H2 G2 s2 E2 v2 => ⟨x, y, dp_str v1, by rw [dp_str v2], q _ H2 G2 (s1.trans s2) E2 (.int _)⟩⟩⟩
theorem dpa_strs {K : PySem.W.Frag} {G : Hp} : ∀ ys : List Str, DqAll K G (ys.map V.str) (ys.map PyData.str)
  | [] => .nil
  | y :: r => .cons (.str y) (dpa_strs r)
theorem y_split {ys : List Str} {apos epos : Pos} (ho : PE X o (tD X.K F Γ (.dat (.str x)) Γ1)) (he : PE X e (tD X.K F Γ1 (.dat (.str y)) Γ2)) (h : splitC x y = some ys) (hs : starEach [e] X.env = [(false, eval e X.env)] := by rfl) (hbase : attributeBase o "split" X.env (eval o X.env) = eval o X.env := by rfl) (hline : (apos.endLine == epos.line) = true := by rfl) : PE X (.Call (.Attribute o "split" apos) [e] [] epos) (tN X.K F Γ (ys.map PyData.str) Γ2) := by
  unfold splitC at h
  split at h
  · rename_i hc
    cases h
    exact pe_imp (pe_split ho he hs hbase hline) fun σ H Q ⟨G, E, q⟩ => ⟨G, E, fun v H1 G1 s1 E1 v1 => ⟨⟨x, dp_str v1⟩, G1, E1, fun w H2 G2 s2 E2 v2 => ⟨x, y, dp_str v1, by rw [dp_str v2], hc.2, Nat.le_trans (Nat.add_le_add_right hc.1 2) (by decide), fun l' hl' => q l' _ _ G2 ((s1.trans s2).trans (Step.newRaw hl')) (E2.newRaw hl') (fre_of (s1.trans s2) E2 hl') (E2.no hl').2.2 upd_same (dpa_strs _)⟩⟩⟩
  · cases h
theorem y_partition {r : Str × Str × Str} {apos epos : Pos} (ho : PE X o (tD X.K F Γ (.dat (.str x)) Γ1)) (he : PE X e (tD X.K F Γ1 (.dat (.str y)) Γ2)) (h : partC x y = some r) (hs : starEach [e] X.env = [(false, eval e X.env)] := by rfl) (hbase : attributeBase o "partition" X.env (eval o X.env) = eval o X.env := by rfl) (hline : (apos.endLine == epos.line) = true := by rfl) : PE X (.Call (.Attribute o "partition" apos) [e] [] epos) (tD X.K F Γ (.dat (.tuple [.str r.1, .str r.2.1, .str r.2.2])) Γ2) := by
  unfold partC at h
  split at h
  · rename_i hc
    cases h
    refine pe_imp (pe_partition ho he hs hbase hline) fun σ H Q ⟨G, E, q⟩ => ⟨G, E, fun v H1 G1 s1 E1 v1 => ⟨⟨x, dp_str v1⟩, G1, E1, fun w H2 G2 s2 E2 v2 => ⟨x, y, dp_str v1, by rw [dp_str v2], hc.2, Nat.le_trans hc.1 (by decide), fun l' hl' => ?_⟩⟩⟩
    have g := (E2.no hl').2.2
    exact q _ _ _ ((s1.trans s2).trans (Step.newDat hl' g)) (E2.newDat hl') (.tup (SqT.of upd_same) (.cons (.str _) (.cons (.str _) (.cons (.str _) .nil))))
  · cases h
theorem y_fmtS (h : PE X e (tD X.K F Γ (.dat (.str x)) Γ1)) (hz : fitS x = some z) : PE X (.FormattedValue e (-1) none pos) (tD X.K F Γ (.dat (.str z)) Γ1) := by
  unfold fitS at hz
  split at hz
  · rename_i hc
    cases hz
    exact pe_imp (pe_fmt h) fun σ H Q ⟨G, E, q⟩ => ⟨G, E, fun v H1 G1 s1 E1 v1 => .inl ⟨x, dp_str v1, Nat.le_trans hc (by decide), q _ H1 G1 s1 E1 (.str _)⟩⟩
  · cases hz
theorem y_fmtI (h : PE X e (tD X.K F Γ (.dat (.int i)) Γ1)) (hz : strC i = some z) : PE X (.FormattedValue e (-1) none pos) (tD X.K F Γ (.dat (.str z)) Γ1) := by
  unfold strC at hz
  split at hz
  · rename_i hc
    cases hz
    exact pe_imp (pe_fmt h) fun σ H Q ⟨G, E, q⟩ => ⟨G, E, fun v H1 G1 s1 E1 v1 => .inr ⟨i, dp_int v1, hc, q _ H1 G1 s1 E1 (.str _)⟩⟩
  · cases hz
theorem y_f1 (h : PE X e (tD X.K F Γ (.dat (.str x)) Γ1)) : PE X (.JoinedStr [e] pos) (tD X.K F Γ (.dat (.str x)) Γ1) := pe_joined1 h
inductive DJ (X : Cx) (F : Fx) (Γ : List Sl) : List Expr → List Str → Prop where
  | nil : DJ X F Γ [] []
  | cons {e : Expr} {x : Str} {es : List Expr} {xs : List Str} (h : PE X e (tD X.K F Γ (.dat (.str x)) Γ)) (r : DJ X F Γ es xs) : DJ X F Γ (e :: es) (x :: xs)
def joinC : Str → List Str → Option Str
  | acc, [] => some acc
  | acc, x :: r => (catS acc x).bind fun s => joinC s r
theorem dj_pj (h : DJ X F Γ es xs) : PJ X es (xs.map fun x => tD X.K F Γ (.dat (.str x)) Γ) := by
  induction h with
  | nil => exact .nil
  | cons h _ ih => exact .cons h ih
theorem dj_run {K : PySem.W.Frag} {σ : L2.St} {Q : VK} : ∀ (xs : List Str) (acc z : Str) (G H : Hp), joinC acc xs = some z → En K F G σ H Γ → (∀ H' G', Step σ Γ Γ G H G' H' → En K F G' σ H' Γ → Q (.str z) H') → tJs (xs.map fun x => tD K F Γ (.dat (.str x)) Γ) acc σ H fun out H1 => Q (.str out) H1
  | [], acc, z, G, H, h, E, q => by
    cases h
    exact q H G Step.refl E
  | x :: r, acc, z, G, H, h, E, q => by
    obtain ⟨s, h1, h2⟩ := bs h
    unfold catS at h1
    split at h1
    · rename_i hc
      cases h1
      refine ⟨G, E, fun v H1 G1 s1 E1 v1 => ⟨x, dp_str v1, ?_, dj_run r _ z G1 H1 h2 E1 fun H2 G2 s2 E2 => q H2 G2 (s1.trans s2) E2⟩⟩
      have : (acc ++ x).length = acc.length + x.length := by rw [TL.len_tl, TL.tl_append, List.length_append, ← TL.len_tl, ← TL.len_tl]
      rw [this]
      exact Nat.le_trans hc (by decide)
    · cases h1
theorem y_joined {v1 v2 : Expr} {xs : List Str} (h : DJ X F Γ (v1 :: v2 :: es) xs) (hz : joinC Str.empty xs = some z) : PE X (.JoinedStr (v1 :: v2 :: es) pos) (tD X.K F Γ (.dat (.str z)) Γ) :=
  pe_imp (pe_joined (dj_pj h)) fun σ H Q ⟨G, E, q⟩ => dj_run xs _ z G H hz E fun H' G' s' E' => q _ H' G' s' E' (.str _)
end
end AM

set_option Elab.async false
set_option linter.all false
set_option maxRecDepth 100000
set_option maxHeartbeats 2000000
namespace AM
open PySem PySem.Spec PyProof.Rows L2
section
variable {X : Cx} {F : Fx} {W : WX} {P P' : Out → Prop} {Γ Γ1 Γ2 Γ3 : List Sl} {a b c e e2 ix o : Expr} {es : List Expr} {pos pos' p p2 p3 : Pos} {k : Nat} {rest body : List Stmt} {ra rb : Rv} {i j m : Int} {x y z : Str} {α : Type} {en : α → PyData} {xs : List α}
theorem pst_imp {s : Stmt} {t t' : TS} (h : PST X s t) (i : ∀ D σ H, t' D σ H → t D σ H) : PST X s t' := fun pins s σ H D h0 I q => h pins s σ H D h0 I (i D σ H q)
theorem psst_imp {s : List Stmt} {t t' : TS} (h : PSsT X s t) (i : ∀ D σ H, t' D σ H → t D σ H) : PSsT X s t' := fun pins s σ H D h0 I q => h pins s σ H D h0 I (i D σ H q)
theorem pet_imp {t t' : TE} (h : PET X e t) (i : ∀ σ H Q, t' σ H Q → t σ H Q) : PET X e t' := fun pins s σ H Q h0 I q => h pins s σ H Q h0 I (i σ H Q q)
theorem dst_seq {s : Stmt} (h : PST X s (tS X.K F W Γ (thn' X F W rest P))) : PSsT X (s :: rest) (tS X.K F W Γ P) := by
  have hr : PSs X rest (fun D σ H => ∃ Γ', PSs X rest (tS X.K F W Γ' P) ∧ tS X.K F W Γ' P D σ H) :=
    ⟨fun pins s σ H D I ⟨Γ', p, q⟩ => p.run pins s σ H D I q⟩
  refine psst_imp (psst_cons h (PSsT.of hr)) fun D σ H ⟨G, E, q1, q2, q3, q4, q5⟩ => ⟨G, E, fun Γ' σ' H' G' p g E' => ⟨Γ', p, G', E', ?_, ?_, ?_, ?_, ?_⟩, q2, q3, q4, q5⟩
  · exact fun Γ'' σ'' H'' G'' p' g' E'' => q1 Γ'' σ'' H'' G'' p' (g.trans g') E''
  · exact fun d Γ'' v σ'' H'' G'' p' g' E'' => q2 d Γ'' v σ'' H'' G'' p' (g.trans g') E''
  · exact fun Γ'' σ'' H'' G'' p' g' E'' => q3 Γ'' σ'' H'' G'' p' (g.trans g') E''
  · exact fun Γ'' σ'' H'' G'' p' g' E'' => q4 Γ'' σ'' H'' G'' p' (g.trans g') E''
  · exact fun c Γ'' σ'' H'' G'' p' g' E'' => q5 c Γ'' σ'' H'' G'' p' (g.trans g') E''
theorem dst_setN (i : Nat) {x : Str} {xs : List PyData} (he : PE X e (tN X.K F Γ xs Γ1)) (hr : PSsT X rest (tS X.K F W (st Γ1 i (.own xs)) P)) (hN : X.N.Nodup) (hi : X.N[i]? = some x := by rfl) (hx : Loc X.env.scope x := by first | exact Or.inl rfl | exact Or.inr rfl) (hl : inb Γ1 i = true := by rfl) (hb : pf F i = true := by rfl)
    (hs : swapsWith e (some (.Name x pos')) pos.line X.env = pure false := by rfl) (hf : X.fn x = true ∨ X.env.scope.names.lookup x = some .local := by first | exact .inl rfl | exact .inr rfl | assumption) :
    PSsT X (.Assign [.Name x pos'] e pos :: rest) (tS X.K F W Γ P) :=
  psst_imp (psst_cons (PST.of (ps_set hN hi hx he hs hf)) hr) fun D σ H ⟨G, E, q1, q2, q3, q4, q5⟩ => ⟨G, E, fun p vs H1 G1 s1 E1 hp g hl' a => ⟨G1, E1.setOwn (inb_lt hl) hl' g (own_ne s1 E hp.1) hp.2 a hb,
    fun Γ'' σ'' H'' G'' p' g' E'' => q1 Γ'' σ'' H'' G'' p' (s1.g.trans g') E'',
    fun d Γ'' v σ'' H'' G'' p' g' E'' => q2 d Γ'' v σ'' H'' G'' p' (s1.g.trans g') E'',
    fun Γ'' σ'' H'' G'' p' g' E'' => q3 Γ'' σ'' H'' G'' p' (s1.g.trans g') E'',
    fun Γ'' σ'' H'' G'' p' g' E'' => q4 Γ'' σ'' H'' G'' p' (s1.g.trans g') E'',
    fun c Γ'' σ'' H'' G'' p' g' E'' => q5 c Γ'' σ'' H'' G'' p' (s1.g.trans g') E''⟩⟩
theorem yt_setN (s : Nat) {y : Str} {v w : List α} (q : v = w) (he : PE X e (tN X.K F Γ (v.map en) Γ1)) (hr : PSsT X rest (tS X.K F W (st Γ1 s (.own (w.map en))) P)) (hN : X.N.Nodup) (hi : X.N[s]? = some y := by rfl) (hx : Loc X.env.scope y := by first | exact Or.inl rfl | exact Or.inr rfl) (hl : inb Γ1 s = true := by rfl) (hb : pf F s = true := by rfl)
    (hs : swapsWith e (some (.Name y pos')) pos.line X.env = pure false := by rfl) (hf : X.fn y = true ∨ X.env.scope.names.lookup y = some .local := by first | exact .inl rfl | exact .inr rfl | assumption) :
    PSsT X (.Assign [.Name y pos'] e pos :: rest) (tS X.K F W Γ P) := by
  subst q; exact dst_setN s he hr hN hi hx hl hb hs hf
theorem dst_for {tg iter : Expr} {ds : List PyData} {A : PyData → List Sl → List Sl → Prop} (V : Nat → List Sl → Prop) (hi : PIT X tg iter (tI X.K F Γ ds Γ1)) (hg : PG X tg (tT X.K F A)) (h0 : V 0 Γ1) (hp : PassesOwn (model X.prog X.w) X.A X.env X.xe)
    (turn : ∀ i d Γ, ds[i]? = some d → V i Γ → ∃ Γt, A d Γ Γt ∧ PSs X body (tS X.K F W Γt (loopP X F W rest P (V (i + 1)))))
    (done : ∀ Γ, V ds.length Γ → PSs X rest (tS X.K F W Γ P)) (hc : X.calm = true := by rfl) (hs : ∀ x, foldedSetIterable iter X.env x = pure x := by intro _; rfl) :
    PSsT X (.For tg iter body [] pos :: rest) (tS X.K F W Γ P) := by
  refine dst_seq ?_
  have hb : PSs X body (fun D σ H => ∃ i Γt, PSs X body (tS X.K F W Γt (loopP X F W rest P (V (i + 1)))) ∧ tS X.K F W Γt (loopP X F W rest P (V (i + 1))) D σ H) := ⟨fun pins s σ H D I ⟨_, _, p, q⟩ => p.run pins s σ H D I q⟩
  refine pst_imp (pst_for hp hc hi hg hb hs) fun D σ H ⟨G, E, q1, q2, q3, q4, q5⟩ => ⟨G, E, fun J H1 G1 s1 E1 it => ?_⟩
  refine ⟨fun i m σ H => m = ds.length - i ∧ i ≤ ds.length ∧ ∃ Γ G', V i Γ ∧ Same G1 G' ∧ En X.K F G' σ H Γ, ⟨ds.length, by simp, Nat.zero_le _, Γ1, G1, h0, Same.r, E1⟩, ?_⟩
  rintro i m σ H ⟨rfl, hle, Γ, G2, v, sg, E2⟩
  by_cases hlt : i < ds.length
  · refine .inr ⟨it.go i H (sg.trans E2.le) hlt, fun σ' H' => ∃ Γ' G', V (i + 1) Γ' ∧ Same G1 G' ∧ En X.K F G' σ' H' Γ', fun σ' H' ⟨Γ', G', h1, h2, h3⟩ => ⟨ds.length - (i + 1), by omega, rfl, hlt, Γ', G', h1, h2, h3⟩, fun x H' y => ?_⟩
    obtain ⟨d, hd, alt⟩ := it.yl i H G2 x H' sg E2.le hlt y
    obtain ⟨Γt, hA, hbody⟩ := turn i d Γ hd v
    have fin : ∀ G3, Same G2 G3 → En X.K F G3 σ H' Γ → Dq X.K G3 x d → tT X.K F A x σ H' (fun σ2 H2 => ∃ n Γt, PSs X body (tS X.K F W Γt (loopP X F W rest P (V (n + 1)))) ∧ tS X.K F W Γt (loopP X F W rest P (V (n + 1))) { D with nx := fun σ' H' => ∃ Γ' G', V (i + 1) Γ' ∧ Same G1 G' ∧ En X.K F G' σ' H' Γ', ct := fun σ' H' => ∃ Γ' G', V (i + 1) Γ' ∧ Same G1 G' ∧ En X.K F G' σ' H' Γ', bk := D.nx } σ2 H2) := fun G3 s3 E3 d3 => by
      have sg3 : Same G1 G3 := sg.trans s3
      refine ⟨G3, d, Γ, Γt, hA, E3, d3, fun σ4 H4 G4 s4 E4 => ?_⟩
      refine ⟨i, Γt, hbody, ?_⟩
      have sg4 : Same G1 G4 := sg3.trans s4
      have sgG : Same G G4 := s1.g.trans sg4
      refine ⟨G4, E4, ?_, ?_, ?_, ?_, ?_⟩
      · exact fun Γ' σ' H' G' p g E' => ⟨Γ', G', p, sg4.trans g, E'⟩
      · exact fun d Γ' v σ' H' G' p g E' => q2 d Γ' v σ' H' G' p (sgG.trans g) E'
      · exact fun Γ' σ' H' G' p g E' => q1 Γ' σ' H' G' p (sgG.trans g) E'
      · exact fun Γ' σ' H' G' p g E' => ⟨Γ', G', p, sg4.trans g, E'⟩
      · exact fun c Γ' σ' H' G' p g E' => q5 c Γ' σ' H' G' p (sgG.trans g) E'
    rcases alt with ⟨rfl, hx⟩ | ⟨p, o, hp', ho, rfl, hx⟩
    · exact fin G2 Same.r E2 hx
    · exact fin _ (same_upd (E2.no hp').2.2) (E2.newDat hp' ho) hx
  · have e : i = ds.length := by omega
    subst e
    refine .inl ⟨it.stop _ H (sg.trans E2.le) (Nat.le_refl _), q1 Γ σ H G2 (done Γ v) (s1.g.trans sg) E2⟩
theorem yt_forC {σ τ : Type} {tg iter : Expr} {body : List Stmt} {A : PyData → List Sl → List Sl → Prop} (mk : σ → List Sl) (bd : σ → α → Option (Ctl σ τ)) {s0 : σ} {r : Ctl σ τ} (h : forC bd xs s0 = some r) (hi : PIT X tg iter (tI X.K F Γ (xs.map en) (mk s0))) (hg : PG X tg (tT X.K F A)) (hp : PassesOwn (model X.prog X.w) X.A X.env X.xe)
    (turn : ∀ s x v, bd s x = some v → (∀ t, v = .rt t → r = .rt t) → ∃ Γt, A (en x) (mk s) Γt ∧ PSs X body (tS X.K F W Γt (loopP X F W rest P (fun Γ => ∃ s', v = .nx s' ∧ Γ = mk s'))))
    (done : ∀ s1, r = .nx s1 → PSs X rest (tS X.K F W (mk s1) P)) (hc : X.calm = true := by rfl) (hs : ∀ x, foldedSetIterable iter X.env x = pure x := by intro _; rfl) :
    PSsT X (.For tg iter body [] pos :: rest) (tS X.K F W Γ P) := by
  refine dst_for (fun i Γ => ∃ s, forC bd (xs.take i) s0 = some (.nx s) ∧ Γ = mk s) hi hg ⟨s0, rfl, rfl⟩ hp (fun i d Γ hd ⟨s, e1, e2⟩ => ?_) (fun Γ ⟨s, e1, e2⟩ => ?_) hc hs
  · rw [List.getElem?_map] at hd
    obtain ⟨x, hx, rfl⟩ := Option.map_eq_some_iff.mp hd
    obtain ⟨v, h3, h4, h5⟩ := forC_step h i x s hx e1
    subst e2
    obtain ⟨Γt, hA, hb⟩ := turn s x v h3 h5
    refine ⟨Γt, hA, ds_imp hb fun o ho => ?_⟩
    cases o with
    | nx Γ => obtain ⟨s', q1, q2⟩ := ho; subst q1; exact ⟨s', h4, q2⟩
    | ct Γ => obtain ⟨s', q1, q2⟩ := ho; subst q1; exact ⟨s', h4, q2⟩
    | _ => exact ho
  · rw [List.length_map, List.take_length, h] at e1
    cases e1
    subst e2
    exact done s rfl
theorem yt_doc {t : TS} {w : Str} {j : Nat} (h : PSsT X rest t) : PSs X (.Expr (.Constant (.str w) j p) pos' :: rest) t := CwR.pss_docT h
theorem pet_m1 {id : String} {name : Str} {apos pos : Pos} {to te : TE} {r : V → List V → Hp → VK → Prop} (slot : Slot "str" name id) (ty : typeOf (.builtin id) = pure (.type "method_descriptor")) (rule : MtR X id r) (ho : PET X o to) (he : PE X e te)
    (hs : starEach [e] X.env = [(false, eval e X.env)] := by rfl) (hbase : attributeBase o name X.env (eval o X.env) = eval o X.env := by rfl) (hline : (apos.endLine == pos.line) = true := by rfl) :
    PET X (.Call (.Attribute o name apos) [e] [] pos) (tM1 r to te) := by
  intro pins s σ H Q h0 I h
  refine PySem.Call_method1 hbase hs hline (thn (ho pins s σ H _ h0 I h) fun v s1 ⟨x, H1, I1, r1, q1⟩ => ?_)
  obtain ⟨⟨a, rfl⟩, q1⟩ := q1
  obtain ⟨t, rfl⟩ := _root_.id r1
  refine ⟨"str", _, PySem.F.plainAttrs_str, slot, ty, typeIs_str _ _ _, (fun _ e => nomatch e), Calls.callWith_builtin rfl (Calls.evalArgs_plain (Calls.spliced_cons ?_))⟩
  exact thn (he.run pins s1 σ H1 _ I1 q1) fun u s2 ⟨y, H2, I2, r2, q2⟩ => Calls.spliced_nil (rule pins s2 σ H2 _ [y] _ [u] Q I2 r1 (.cons r2 .nil) q2)
theorem yt_repl {w : Str} {j k : Nat} {c0 c1 apos : Pos} (ho : PE X o (tD X.K F Γ (.dat (.str x)) Γ1)) (h : replC x y z = some w) (hyz : (y == z) = false := by decide)
    (hst : starEach [.Constant (.str y) j c0, .Constant (.str z) k c1] X.env = [(false, eval (.Constant (.str y) j c0) X.env), (false, eval (.Constant (.str z) k c1) X.env)] := by rfl)
    (hbase : attributeBase o "replace" X.env (eval o X.env) = eval o X.env := by rfl) (hline : (apos.endLine == pos.line) = true := by rfl) :
    PET X (.Call (.Attribute o "replace" apos) [.Constant (.str y) j c0, .Constant (.str z) k c1] [] pos) (tD X.K F Γ (.dat (.str w)) Γ1) := by
  unfold replC at h
  split at h
  · rename_i hc
    cases h
    exact pet_imp (CwR.pet_replC ho hyz hst hbase hline) fun σ H Q ⟨G, E, q⟩ => ⟨G, E, fun v H1 G1 s1 E1 v1 => ⟨x, dp_str v1, Nat.le_trans hc (by decide), q _ H1 G1 s1 E1 (.str _)⟩⟩
  · cases h
theorem yt_split {ys : List Str} {apos epos : Pos} (ho : PET X o (tD X.K F Γ (.dat (.str x)) Γ1)) (he : PE X e (tD X.K F Γ1 (.dat (.str y)) Γ2)) (h : splitC x y = some ys) (hs : starEach [e] X.env = [(false, eval e X.env)] := by rfl) (hbase : attributeBase o "split" X.env (eval o X.env) = eval o X.env := by rfl) (hline : (apos.endLine == epos.line) = true := by rfl) : PET X (.Call (.Attribute o "split" apos) [e] [] epos) (tN X.K F Γ (ys.map PyData.str) Γ2) := by
  unfold splitC at h
  split at h
  · rename_i hc
    cases h
    exact pet_imp (pet_m1 PySem.F.slot_str_split PySem.F.type_str_split mt_split ho he hs hbase hline) fun σ H Q ⟨G, E, q⟩ => ⟨G, E, fun v H1 G1 s1 E1 v1 => ⟨⟨x, dp_str v1⟩, G1, E1, fun w H2 G2 s2 E2 v2 => ⟨x, y, dp_str v1, by rw [dp_str v2], hc.2, Nat.le_trans (Nat.add_le_add_right hc.1 2) (by decide), fun l' hl' => q l' _ _ G2 ((s1.trans s2).trans (Step.newRaw hl')) (E2.newRaw hl') (fre_of (s1.trans s2) E2 hl') (E2.no hl').2.2 upd_same (dpa_strs _)⟩⟩⟩
  · cases h
theorem pet_fz {xs : List PyData} (h : PET X e (tN X.K F Γ xs Γ1)) : PET X e (tD X.K F Γ (.dat (.list xs)) Γ1) :=
  pet_imp h fun σ H Q ⟨G, E, q⟩ => ⟨G, E, fun p vs H1 G1 s1 E1 hp g hl a => by
    have no := own_ne s1 E hp.1
    have sg : Same G1 (upd G1 p (.lst vs)) := same_upd g
    refine q _ H1 (upd G1 p (.lst vs)) ⟨fun x o z => sg x o (s1.g x o z), fun x o z => ?_, s1.k, s1.o, s1.s⟩ (E1.freeze hl g no hp.2) (.lst upd_same (dpa_mono sg _ _ a))
    by_cases w : x = p
    · subst w; exact .inr hp.1
    · rw [upd_ne w] at z; exact s1.f x o z⟩
theorem yit_list {tg : Expr} {ds : List PyData} (h : PET X e (tN X.K F Γ ds Γ1)) : PIT X tg e (tI X.K F Γ ds Γ1) := by
  have h1 : PIT X tg e _ := pit_list (pet_fz h)
  refine fun pins s σ H R h0 I ⟨G, E, q⟩ => h1 pins s σ H R h0 I ⟨G, E, fun v H1 G1 s1 E1 v1 => ?_⟩
  obtain ⟨p, vs, rfl, hq, ha⟩ := dp_lst v1
  exact ⟨p, rfl, ⟨vs, .inl (rd_mono E1.le (.inl hq))⟩, q _ H1 G1 s1 E1 (itd_list (.inl hq) ha)⟩
end
end AM

set_option Elab.async false
set_option linter.all false
set_option maxRecDepth 100000
set_option maxHeartbeats 2000000
namespace AM
open PySem PySem.Spec PyProof.Rows L2
def asPS : PyData → Option (Str × PyData)
  | .tuple [.str a, d] => some (a, d)
  | _ => none
theorem asPS_eq {d : PyData} {p : Str × PyData} (h : asPS d = some p) : d = eP PyData.str eD p := by
  unfold asPS at h
  split at h
  · cases h; rfl
  · cases h
section
variable {X : Cx} {F : Fx} {W : WX} {P P' : Out → Prop} {Γ Γ1 Γ2 Γ3 : List Sl} {a b c e e2 ix o : Expr} {es : List Expr} {pos pos' p p2 p3 : Pos} {k : Nat} {rest body : List Stmt} {ra rb : Rv} {i j m : Int} {x y z : Str} {ys : List Str}
theorem de_chain {op op' : CmpOp} {f g : Int → Int → Bool} (ho : OpR X (compareOp op) (rI0 fun i j => .bl (f i j))) (ho' : OpR X (compareOp op') (rI0 fun i j => .bl (g i j))) (ha : PE X a (tD X.K F Γ (.dat (.int i)) Γ)) (hb : PE X b (tD X.K F Γ (.dat (.int j)) Γ)) (hc : PE X c (tD X.K F Γ (.dat (.int m)) Γ))
    (hm : lastMarks [op, op'] [b, c] = false := by with_unfolding_all rfl) : PE X (.Compare a [op, op'] [b, c] pos) (tD X.K F Γ (.dat (.bool (f i j && g j m))) Γ) :=
  pe_imp (pe_chain ho ho' ha hb hc hm) fun σ H Q ⟨G, E, q⟩ => ⟨G, E, fun x H1 G1 s1 E1 v1 => ⟨G1, E1, fun y H2 G2 s2 E2 v2 => ⟨i, j, dp_int v1, dp_int v2, f i j, rfl, by
    by_cases h : f i j = true
    · rw [if_pos h]
      refine ⟨G2, E2, fun z H3 G3 s3 E3 v3 => ⟨j, m, dp_int v2, dp_int v3, ?_⟩⟩
      have := q (.bl (g j m)) H3 G3 ((s1.trans s2).trans s3) E3 (by rw [h, Bool.true_and]; exact .bl _)
      exact this
    · rw [if_neg h]
      have h : f i j = false := by simpa using h
      exact q (.bl false) H2 G2 (s1.trans s2) E2 (by rw [h, Bool.false_and]; exact .bl _)⟩⟩⟩
theorem y_lele (ha : PE X a (tD X.K F Γ (.dat (.int i)) Γ)) (hb : PE X b (tD X.K F Γ (.dat (.int j)) Γ)) (hc : PE X c (tD X.K F Γ (.dat (.int m)) Γ)) (hm : lastMarks [.LtE, .LtE] [b, c] = false := by with_unfolding_all rfl) : PE X (.Compare a [.LtE, .LtE] [b, c] pos) (tD X.K F Γ (.dat (.bool (decide (i ≤ j) && decide (j ≤ m)))) Γ) :=
  de_chain (f := fun i j => decide (i ≤ j)) (g := fun i j => decide (i ≤ j)) op_le op_le ha hb hc hm
theorem y_ltlt (ha : PE X a (tD X.K F Γ (.dat (.int i)) Γ)) (hb : PE X b (tD X.K F Γ (.dat (.int j)) Γ)) (hc : PE X c (tD X.K F Γ (.dat (.int m)) Γ)) (hm : lastMarks [.Lt, .Lt] [b, c] = false := by with_unfolding_all rfl) : PE X (.Compare a [.Lt, .Lt] [b, c] pos) (tD X.K F Γ (.dat (.bool (decide (i < j) && decide (j < m)))) Γ) :=
  de_chain (f := fun i j => decide (i < j)) (g := fun i j => decide (i < j)) op_lt op_lt ha hb hc hm
theorem y_lelt (ha : PE X a (tD X.K F Γ (.dat (.int i)) Γ)) (hb : PE X b (tD X.K F Γ (.dat (.int j)) Γ)) (hc : PE X c (tD X.K F Γ (.dat (.int m)) Γ)) (hm : lastMarks [.LtE, .Lt] [b, c] = false := by with_unfolding_all rfl) : PE X (.Compare a [.LtE, .Lt] [b, c] pos) (tD X.K F Γ (.dat (.bool (decide (i ≤ j) && decide (j < m)))) Γ) :=
  de_chain (f := fun i j => decide (i ≤ j)) (g := fun i j => decide (i < j)) op_le op_lt ha hb hc hm
theorem dt_chain {op op' : CmpOp} {f g : Int → Int → Bool} (ho : OpR X (compareOp op) (rI0 fun i j => .bl (f i j))) (ho' : OpR X (compareOp op') (rI0 fun i j => .bl (g i j))) (ha : PE X a (tD X.K F Γ (.dat (.int i)) Γ)) (hb : PE X b (tD X.K F Γ (.dat (.int j)) Γ)) (hc : PE X c (tD X.K F Γ (.dat (.int m)) Γ))
    (hm : lastMarks [op, op'] [b, c] = false := by with_unfolding_all rfl) : PT X (.Compare a [op, op'] [b, c] pos) (tDT X.K F Γ (f i j && g j m) Γ) :=
  pt_imp (pt_chain ho ho' ha hb hc hm) fun σ H Q ⟨G, E, q⟩ => ⟨G, E, fun x H1 G1 s1 E1 v1 => ⟨G1, E1, fun y H2 G2 s2 E2 v2 => ⟨i, j, dp_int v1, dp_int v2, f i j, rfl, by
    by_cases h : f i j = true
    · rw [if_pos h]
      refine ⟨G2, E2, fun z H3 G3 s3 E3 v3 => ⟨j, m, dp_int v2, dp_int v3, g j m, rfl, ?_⟩⟩
      have := q H3 G3 ((s1.trans s2).trans s3) E3
      rwa [h, Bool.true_and] at this
    · rw [if_neg h]
      have h : f i j = false := by simpa using h
      have := q H2 G2 (s1.trans s2) E2
      rw [h, Bool.false_and] at this
      exact ⟨false, rfl, this⟩⟩⟩⟩
theorem y_tlele (ha : PE X a (tD X.K F Γ (.dat (.int i)) Γ)) (hb : PE X b (tD X.K F Γ (.dat (.int j)) Γ)) (hc : PE X c (tD X.K F Γ (.dat (.int m)) Γ)) (hm : lastMarks [.LtE, .LtE] [b, c] = false := by with_unfolding_all rfl) : PT X (.Compare a [.LtE, .LtE] [b, c] pos) (tDT X.K F Γ (decide (i ≤ j) && decide (j ≤ m)) Γ) :=
  dt_chain (f := fun i j => decide (i ≤ j)) (g := fun i j => decide (i ≤ j)) op_le op_le ha hb hc hm
theorem y_tltlt (ha : PE X a (tD X.K F Γ (.dat (.int i)) Γ)) (hb : PE X b (tD X.K F Γ (.dat (.int j)) Γ)) (hc : PE X c (tD X.K F Γ (.dat (.int m)) Γ)) (hm : lastMarks [.Lt, .Lt] [b, c] = false := by with_unfolding_all rfl) : PT X (.Compare a [.Lt, .Lt] [b, c] pos) (tDT X.K F Γ (decide (i < j) && decide (j < m)) Γ) :=
  dt_chain (f := fun i j => decide (i < j)) (g := fun i j => decide (i < j)) op_lt op_lt ha hb hc hm
theorem y_tlelt (ha : PE X a (tD X.K F Γ (.dat (.int i)) Γ)) (hb : PE X b (tD X.K F Γ (.dat (.int j)) Γ)) (hc : PE X c (tD X.K F Γ (.dat (.int m)) Γ)) (hm : lastMarks [.LtE, .Lt] [b, c] = false := by with_unfolding_all rfl) : PT X (.Compare a [.LtE, .Lt] [b, c] pos) (tDT X.K F Γ (decide (i ≤ j) && decide (j < m)) Γ) :=
  dt_chain (f := fun i j => decide (i ≤ j)) (g := fun i j => decide (i < j)) op_le op_lt ha hb hc hm
theorem dpa_strs_eq {K : PySem.W.Frag} {G : Hp} : ∀ {vs : List V} {ys : List Str}, DqAll K G vs (ys.map PyData.str) → vs = ys.map V.str
  | [], [], _ => rfl
  | _ :: _, [], h => by cases h
  | [], _ :: _, h => by cases h
  | v :: vs, y :: ys, h => by
    cases h with
    | cons h1 h2 => rw [dp_str h1, dpa_strs_eq h2]; rfl
theorem inV_strs (x : Str) : ∀ ys : List Str, inV (.str x) (ys.map V.str) = decide (x ∈ ys) := by
  intro ys
  induction ys with
  | nil => first | rfl | simp [inV]
  | cons y r ih =>
    simp only [inV, List.map_cons, List.any_cons] at ih ⊢
    rw [ih]
    by_cases h : y = x
    · subst h; simp [eqV]
    · have h2 : ¬ x = y := fun z => h z.symm
      simp [h, h2, eqV]
theorem flat_strsA (ys : List Str) : (ys.map V.str).all flatV = true := by
  induction ys with
  | nil => rfl
  | cons y r ih => rw [List.map_cons, List.all_cons, ih]; rfl
theorem rd_inS {K : PySem.W.Frag} {db : PyData} (va : vw Γ ra = some (.str x)) (vb : vw Γ rb = some db) (hs : sqOf db = some (ys.map PyData.str)) (neg : Bool) : RD2 K F Γ (rIn K neg) ra rb (.dat (.bool (if neg then !decide (x ∈ ys) else decide (x ∈ ys)))) := fun G H σ v w Q E vx vy k => by
  have e1 : v = .str x := dp_str (E.view vx va)
  obtain ⟨p, vs, rfl, alt, al⟩ := seq_of E vy vb hs
  rw [dpa_strs_eq al] at alt
  subst e1
  refine ⟨p, ys.map V.str, rfl, ?_, rfl, flat_strsA ys, ?_⟩
  · rcases alt with ⟨_, z⟩ | ⟨_, z⟩
    · exact .inl (.inl z)
    · exact .inr z
  · rw [inV_strs]
    exact k _ H G Step.refl E (.bl _)
theorem y_inS {db : PyData} (ha : PE X a (tD X.K F Γ ra Γ1)) (hb : PE X b (tD X.K F Γ1 rb Γ2)) (va : vw Γ2 ra = some (.str x) := by rfl) (vb : vw Γ2 rb = some db := by rfl) (hs : sqOf db = some (ys.map PyData.str) := by rfl) (hm : behindInMarks .In b = false := by rfl) : PE X (.Compare a [.In] [b] pos) (tD X.K F Γ (.dat (.bool (decide (x ∈ ys)))) Γ2) := de_cmp op_in_seq (rd_inS va vb hs false) ha hb hm
theorem y_tinS {db : PyData} (ha : PE X a (tD X.K F Γ ra Γ1)) (hb : PE X b (tD X.K F Γ1 rb Γ2)) (va : vw Γ2 ra = some (.str x) := by rfl) (vb : vw Γ2 rb = some db := by rfl) (hs : sqOf db = some (ys.map PyData.str) := by rfl) (hm : behindInMarks .In b = false := by rfl) : PT X (.Compare a [.In] [b] pos) (tDT X.K F Γ (decide (x ∈ ys)) Γ2) := dt_cmp op_in_seq (rd_inS va vb hs false) ha hb hm
end
end AM

set_option Elab.async false
set_option linter.all false
set_option maxRecDepth 100000
set_option maxHeartbeats 2000000
namespace AM
open PySem PySem.Spec PyProof.Rows L2
def PE1 (X : Cx) (e : Expr) (t : TE) : Prop :=
  ∀ (pins : List (Addr × Obj)) (s : Shared) (σ : L2.St) (H : Hp) (Q : VK), Inv X pins σ H s → t σ H Q → wpAny (model X.prog X.w) X.A (eval e X.env) (fun v s1 => 1 ≤ s1.toks ∧ EP X pins σ Q v s1) X.xe s
def PS1 (X : Cx) (st : Stmt) (t : TS) : Prop :=
  ∀ (pins : List (Addr × Obj)) (s : Shared) (σ : L2.St) (H : Hp) (D : Ends), Inv X pins σ H s → t D σ H → wpAny (model X.prog X.w) X.A (exec st X.env) (fun f s1 => 1 ≤ s1.toks ∧ SP X pins D f s1) X.xe s
section
variable {X : Cx} {F : Fx} {W : WX} {P P' : Out → Prop} {Γ Γ1 Γ2 Γ3 : List Sl} {a b c e e2 ix o : Expr} {es : List Expr} {pos pos' p p2 p3 : Pos} {k : Nat} {rest body : List Stmt} {ra rb : Rv} {i j m : Int} {x y z : Str} {ys : List Str} {α : Type} {en : α → PyData}
theorem pe1_list {j : Nat} {c0 : Pos} : PE1 X (.List [.Constant (.int i) j c0] pos) (tLst (tCons (tC (.int i)) tNil)) := by
  intro pins s σ H Q I hq
  refine wpAny_List_spliced ?_
  show wpAny _ _ (spliced ((false, eval (.Constant (.int i) j c0) X.env) :: backTo pos (starEach [] X.env))) _ _ s
  refine Calls.spliced_cons (wpAny_Constant_int (Calls.spliced_nil ?_))
  have hq : _ := hq
  obtain ⟨z, q⟩ := hq
  have one : (1 : Nat) ≤ sizeLine := by decide
  refine ⟨one, by show 1 ≤ s.toks + 1; omega, .ref s.heap.objs.size, upd H s.heap.objs.size (.lst [.int i]), ?_, rfl, q _ (I.hok.fresh (Nat.le_refl _))⟩
  exact I.laid (t' := s.toks + 1) (fun b u e => Heap.get?_push_of_some _ e) (Nat.le_refl _) ⟨one, [.int i s.toks], 0, .cons ⟨_, rfl⟩ .nil, Heap.get?_push_size _ rfl⟩
theorem pe1_op {op : Operator} {r : R2} {te tf : TE} (ho : OpR X (binaryOp op) r) (ha : PE1 X a te) (hb : PE X b tf) : PE1 X (.BinOp a op b pos) (tOp r te tf) := by
  intro pins s σ H Q I h
  refine wpAny_BinOp (thn (ha pins s σ H _ I h) fun v s1 ⟨h1, x, H1, I1, r1, q1⟩ => ?_)
  refine wpAny_mono (wpAny_toks_of h1 (hb.run pins s1 σ H1 _ I1 q1)) (fun u s2 q => ?_) fun _ _ z => z.2
  obtain ⟨h2, y, H2, I2, r2, q2⟩ := q
  exact wpAny_mono (wpAny_toks_of h2 (ho pins s2 σ H2 x y v u Q I2 r1 r2 q2)) (fun _ _ q => q) fun _ _ z => z.2
theorem ps1_set {te : TE} (n : Nat) (hN : X.N.Nodup) (hi : X.N[n]? = some x) (hx : Loc X.env.scope x) (he : PE1 X e te) (hs : swapsWith e (some (.Name x pos')) pos.line X.env = pure false := by rfl) (hf : X.fn x = true ∨ X.env.scope.names.lookup x = some .local := by first | exact .inl rfl | exact .inr rfl | assumption) :
    PS1 X (.Assign [.Name x pos'] e pos) (tAsg te (gName n)) := by
  intro pins s σ H D I h
  refine wpAny_Assign_Name (thn (he pins s σ H _ I h) fun v s1 ⟨h1, y, H1, I1, r1, q1⟩ => ?_) hs
  exact wpAny_mono (wpAny_toks_of h1 (store_ok I1 hN hi hx r1 (fun s2 I2 => (⟨_, H1, I2, q1⟩ : SP X pins D .next s2)) hf)) (fun _ _ q => q) fun _ _ z => z.2
theorem pss1_cons {st : Stmt} {t u : TS} (h1 : PS1 X st t) (h2 : PSsT X rest u) : PSs X (st :: rest) (tSeq t u) := by
  refine ⟨fun pins s σ H D I h => ?_⟩
  refine wpAny_execs_cons (thn (h1 pins s σ H { D with nx := u D } I h) fun f s1 q => ?_)
  obtain ⟨hk, q⟩ := q
  cases f with
  | next =>
    obtain ⟨σ', H', I', q⟩ := q
    exact h2 pins s1 σ' H' D hk I' q
  | ret v => exact q
  | brk => exact q
  | cont => exact q
theorem pe1_imp {t t' : TE} (h : PE1 X e t) (i : ∀ σ H Q, t' σ H Q → t σ H Q) : PE1 X e t' := fun pins s σ H Q I q => h pins s σ H Q I (i σ H Q q)
theorem d1_list {j : Nat} {c0 : Pos} : PE1 X (.List [.Constant (.int i) j c0] pos) (tN X.K F Γ [.int i] Γ) :=
  pe1_imp pe1_list fun σ H Q ⟨G, E, q⟩ => ⟨(by decide : (1 : Nat) ≤ sizeLine), fun p hp => q p [.int i] _ G (Step.newRaw hp) (E.newRaw hp) (fre_of Step.refl E hp) (E.no hp).2.2 upd_same (.cons (.int _) .nil)⟩
theorem y1_rep {zs : List Int} {j : Nat} {c0 lp : Pos} (hb : PE X b (tD X.K F Γ (.dat (.int m)) Γ1)) (h : repL [i] m = some zs) : PE1 X (.BinOp (.List [.Constant (.int i) j c0] lp) .Mult b pos) (tN X.K F Γ (zs.map PyData.int) Γ1) := by
  unfold repL at h
  split at h
  · rename_i hc
    cases h
    rw [← repl_map]
    exact pe1_imp (pe1_op op_rep d1_list hb) fun σ H Q ⟨G, E, q⟩ => ⟨G, E, fun p vs H1 G1 s1 E1 fr gp hp al => ⟨G1, E1, fun y H2 G2 s2 E2 vy => by
      have nO : ¬ Own σ Γ p := own_ne s1 E fr.1
      have hp2 : H2 p = some (.lst vs) := s2.k p _ hp nO noTb_lst
      exact rn_rep hc.1 hc.2.1 (by simpa using hc.2.2) trivial G2 H2 σ _ y Q E2 ⟨p, vs, rfl, hp2, dpa_mono s2.g _ _ al⟩ vy fun p' vs' H3 G3 s3 E3 f3 g3 h3 a3 => q p' vs' H3 G3 ((s1.trans s2).trans s3) E3 (f3.back (s1.trans s2)) g3 h3 a3⟩⟩
  · cases h
theorem y1_setN (s : Nat) {y : Str} {v w : List Int} (q : v = w) (he : PE1 X e (tN X.K F Γ (v.map PyData.int) Γ1)) (hr : PSsT X rest (tS X.K F W (st Γ1 s (.own (w.map PyData.int))) P)) (hN : X.N.Nodup) (hi : X.N[s]? = some y := by rfl) (hx : Loc X.env.scope y := by first | exact Or.inl rfl | exact Or.inr rfl) (hl : inb Γ1 s = true := by rfl) (hb : pf F s = true := by rfl)
    (hs : swapsWith e (some (.Name y pos')) pos.line X.env = pure false := by rfl) (hf : X.fn y = true ∨ X.env.scope.names.lookup y = some .local := by first | exact .inl rfl | exact .inr rfl | assumption) :
    PSs X (.Assign [.Name y pos'] e pos :: rest) (tS X.K F W Γ P) := by
  subst q
  exact pss_imp (pss1_cons (ps1_set s hN hi hx he hs hf) hr) fun D σ H ⟨G, E, q1, q2, q3, q4, q5⟩ => ⟨G, E, fun p vs H1 G1 s1 E1 hp g hl' a => ⟨G1, E1.setOwn (inb_lt hl) hl' g (own_ne s1 E hp.1) hp.2 a hb,
    fun Γ'' σ'' H'' G'' p' g' E'' => q1 Γ'' σ'' H'' G'' p' (s1.g.trans g') E'',
    fun d Γ'' v σ'' H'' G'' p' g' E'' => q2 d Γ'' v σ'' H'' G'' p' (s1.g.trans g') E'',
    fun Γ'' σ'' H'' G'' p' g' E'' => q3 Γ'' σ'' H'' G'' p' (s1.g.trans g') E'',
    fun Γ'' σ'' H'' G'' p' g' E'' => q4 Γ'' σ'' H'' G'' p' (s1.g.trans g') E'',
    fun c Γ'' σ'' H'' G'' p' g' E'' => q5 c Γ'' σ'' H'' G'' p' (s1.g.trans g') E''⟩⟩
end
end AM

set_option Elab.async false
set_option linter.all false
set_option maxRecDepth 100000
set_option maxHeartbeats 2000000
namespace AM
open PySem PySem.Spec PyProof.Rows L2
def sgsS (x : Str) : List Str := x.cps.toList.map fun c => ⟨#[c]⟩
theorem itd_str {K : PySem.W.Frag} {G : Hp} (x : Str) : ItD K G (Its x) ((sgsS x).map PyData.str) where
  go := fun i H e hi => by
    simp only [sgsS, List.length_map, Array.length_toList] at hi
    exact hi
  yl := fun i H G1 v H' e1 e2 hi y => by
    obtain ⟨rfl, c, hc, rfl⟩ := y
    refine ⟨.str ⟨#[c]⟩, ?_, .inl ⟨rfl, .str _⟩⟩
    simp only [sgsS, List.getElem?_map]
    rw [Array.getElem?_toList, hc]
    rfl
  stop := fun i H e hi => by
    simp only [sgsS, List.length_map, Array.length_toList] at hi
    exact hi
section
variable {X : Cx} {F : Fx} {W : WX} {P P' : Out → Prop} {Γ Γ1 Γ2 Γ3 : List Sl} {a b c e e2 ix o : Expr} {es : List Expr} {pos pos' p p2 p3 : Pos} {k : Nat} {rest body : List Stmt} {ra rb : Rv} {i j m : Int} {x y z : Str} {ys : List Str}
theorem yi_str {tg : Expr} (h : PE X e (tD X.K F Γ (.dat (.str x)) Γ1)) : PI X tg e (tI X.K F Γ ((sgsS x).map PyData.str) Γ1) := by
  have h1 : PI X tg e _ := pi_str h
  refine ⟨fun pins s σ H R I ⟨G, E, q⟩ => h1.run pins s σ H R I ⟨G, E, fun v H1 G1 s1 E1 v1 => ?_⟩⟩
  exact ⟨x, dp_str v1, q _ H1 G1 s1 E1 (itd_str x)⟩
def inSgn (x y : Str) : Option Bool := if x.cps.size = 1 then some (decide (x.cps.getD 0 0 ∈ y.cps.toList)) else none
theorem one_sgn {x : Str} (h : x.cps.size = 1) : x = ⟨#[x.cps.getD 0 0]⟩ := by
  obtain ⟨a⟩ := x
  obtain ⟨l⟩ := a
  match l, h with
  | [c], _ => rfl
theorem rd_sgn {K : PySem.W.Frag} {q : Bool} (h : inSgn x y = some q) : RD2 K F Γ (fun v w H Q => ∃ (c : Nat) (z : Str), v = .str ⟨#[c]⟩ ∧ w = .str z ∧ Q (.bl (decide (c ∈ z.cps.toList))) H) (.dat (.str x)) (.dat (.str y)) (.dat (.bool q)) := fun G H σ v w Q E vx vy k => by
  unfold inSgn at h
  split at h
  · rename_i hc
    cases h
    exact ⟨_, y, (dp_str vx).trans (congrArg V.str (one_sgn hc)), dp_str vy, k _ H G Step.refl E (.bl _)⟩
  · cases h
theorem rd_sgnN {K : PySem.W.Frag} {q : Bool} (h : inSgn x y = some q) : RD2 K F Γ (fun v w H Q => ∃ (c : Nat) (z : Str), v = .str ⟨#[c]⟩ ∧ w = .str z ∧ Q (.bl (!decide (c ∈ z.cps.toList))) H) (.dat (.str x)) (.dat (.str y)) (.dat (.bool (!q))) := fun G H σ v w Q E vx vy k => by
  unfold inSgn at h
  split at h
  · rename_i hc
    cases h
    exact ⟨_, y, (dp_str vx).trans (congrArg V.str (one_sgn hc)), dp_str vy, k _ H G Step.refl E (.bl _)⟩
  · cases h
theorem y_tnotSgn {q : Bool} (ha : PE X a (tD X.K F Γ (.dat (.str x)) Γ1)) (hb : PE X b (tD X.K F Γ1 (.dat (.str y)) Γ2)) (h : inSgn x y = some q) (hm : behindInMarks .NotIn b = false := by rfl) : PT X (.Compare a [.NotIn] [b] pos) (tDT X.K F Γ (!q) Γ2) := dt_cmp op_notIn_sign (rd_sgnN h) ha hb hm
theorem y_tinSgn {q : Bool} (ha : PE X a (tD X.K F Γ (.dat (.str x)) Γ1)) (hb : PE X b (tD X.K F Γ1 (.dat (.str y)) Γ2)) (h : inSgn x y = some q) (hm : behindInMarks .In b = false := by rfl) : PT X (.Compare a [.In] [b] pos) (tDT X.K F Γ q Γ2) := dt_cmp op_in_sign (rd_sgn h) ha hb hm
end
end AM

set_option Elab.async false
set_option linter.all false
set_option maxRecDepth 100000
set_option maxHeartbeats 2000000
namespace AM
noncomputable section
open PySem PySem.Spec PyProof.Rows L2
def y_greatest_c1  (s : Int × Int) : Option Bool :=
(some (!decide (s.2 = (0 : Int))))
def y_greatest_b1  (s : Int × Int) : Option ((Int × Int)) :=
Option.bind (modC s.1 s.2) fun t =>
some (s.2, t)
def y_greatest (v_one : Int) (v_other : Int) : Option Int :=
Option.bind (some (v_one.natAbs : Int)) fun v_one1 =>
Option.bind (some (v_other.natAbs : Int)) fun v_other1 =>
Option.bind (whileO (y_greatest_c1) (y_greatest_b1) (v_one1, v_other1)) fun r =>
some r.1
def y_look_at_poly (v_poly : PyData) : Option (Ex Unit) :=
Option.bind (y_is_poly v_poly) fun t =>
if (!t) = true then
some (.ex .NoPoly)
else
some (.ok ())
def y_look_at_some (v_poly : PyData) : Option (Ex Unit) :=
Option.bind (y_look_at_poly v_poly) fun c =>
match c with
| .ex x1 => some (.ex x1)
| .ok u =>
Option.bind (eqC v_poly (PyData.tuple [])) fun t =>
if t = true then
some (.ex .NoPoly)
else
some (.ok ())
def y_trimmed_c1 (v_some : (List Int)) (s : Int) : Option Bool :=
(Option.bind (if (decide ((0 : Int) < s)) = true then (Option.bind (atI v_some (s - (1 : Int))) fun t => some (decide (t = (0 : Int)))) else some false) fun t1 => some t1)
def y_trimmed_b1 (v_some : (List Int)) (s : Int) : Option ((Int)) :=
Option.bind (some (s - (1 : Int))) fun v_many1 =>
some v_many1
def y_trimmed (v_some : (List Int)) : Option (List Int) :=
Option.bind (some (v_some.length : Int)) fun v_many =>
Option.bind (whileO (y_trimmed_c1 v_some) (y_trimmed_b1 v_some) v_many) fun r =>
some (cutZ v_some none (some r))
def y_added (v_one : (List Int)) (v_other : (List Int)) : Option (List Int) :=
Option.bind (some (max (v_one.length : Int) (v_other.length : Int))) fun v_many =>
Option.bind (repT [(0 : Int)] (v_many - (v_one.length : Int))) fun t =>
Option.bind (catC v_one t) fun t1 =>
Option.bind (repT [(0 : Int)] (v_many - (v_other.length : Int))) fun t2 =>
Option.bind (catC v_other t2) fun t3 =>
Option.bind (mapC (fun x1 => (some (x1.1 + x1.2))) (t1.zip t3)) fun t4 =>
Option.bind (y_trimmed t4) fun t5 =>
some t5
def y_scaled (v_poly : (List Int)) (v_number : Int) : Option (List Int) :=
Option.bind (mapC (fun x1 => (Option.bind (mulC v_number x1) fun t => some t)) v_poly) fun t1 =>
Option.bind (y_trimmed t1) fun t2 =>
some t2
def y_lessened_by (v_one : (List Int)) (v_other : (List Int)) : Option (List Int) :=
Option.bind (y_scaled v_other ((0 : Int) - (1 : Int))) fun t =>
Option.bind (y_added v_one t) fun t1 =>
some t1
def y_content_of_b1  (s : Int) (x : Int) : Option ((Int)) :=
Option.bind (y_greatest s x) fun t =>
some t
def y_content_of (v_poly : (List Int)) : Option Int :=
Option.bind (some (0 : Int)) fun v_found =>
Option.bind (forO (y_content_of_b1) v_poly v_found) fun r =>
some r
def y_lessened (v_poly : (List Int)) : Option (List Int) :=
Option.bind (y_content_of v_poly) fun t =>
Option.bind (if (decide (t = (0 : Int))) = true then (some v_poly) else (Option.bind (mapC (fun x1 => (Option.bind (fdivQ x1 t) fun t1 => some t1)) v_poly) fun t2 => some t2)) fun t3 =>
some t3
def y_plain_of (v_poly : (List Int)) : Option (List Int) :=
Option.bind (y_lessened v_poly) fun t =>
Option.bind (if (!decide (t = [])) = true then (Option.bind (atI t (-(1 : Int))) fun t1 => some (decide (t1 < (0 : Int)))) else some false) fun t2 =>
Option.bind (if t2 = true then (Option.bind (y_scaled t ((0 : Int) - (1 : Int))) fun t3 => some t3) else (some t)) fun t4 =>
some t4
def y_plain (v_poly : (List Int)) : Option (Ex (List Int)) :=
Option.bind (y_look_at_poly ((eT PyData.int) v_poly)) fun c =>
match c with
| .ex x1 => some (.ex x1)
| .ok u =>
Option.bind (y_plain_of v_poly) fun t =>
some (.ok t)
def y_quotient_of_c1 (v_other : (List Int)) (s : (List Int) × (List Int)) : Option Bool :=
(some (decide ((v_other.length : Int) ≤ (s.2.length : Int))))
def y_quotient_of_b1 (v_other : (List Int)) (s : (List Int) × (List Int)) : Option (Ctl ((List Int) × (List Int)) (Option (List Int))) :=
Option.bind (atI s.2 (-(1 : Int))) fun t1 =>
Option.bind (atI v_other (-(1 : Int))) fun t2 =>
Option.bind (modC t1 t2) fun t3 =>
if (!decide (t3 = (0 : Int))) = true then
some (.rt none)
else
Option.bind (atI s.2 (-(1 : Int))) fun t4 =>
Option.bind (atI v_other (-(1 : Int))) fun t5 =>
Option.bind (fdivQ t4 t5) fun t6 =>
Option.bind (setC s.1 ((s.2.length : Int) - (v_other.length : Int)) t6) fun t7 =>
Option.bind (repT [(0 : Int)] ((s.2.length : Int) - (v_other.length : Int))) fun t8 =>
Option.bind (y_scaled v_other t6) fun t9 =>
Option.bind (catC t8 t9) fun t10 =>
Option.bind (y_lessened_by s.2 t10) fun t11 =>
some (.nx (t7, t11))
def y_quotient_of (v_one : (List Int)) (v_other : (List Int)) : Option (Option (List Int)) :=
if (decide (v_one = [])) = true then
some (some [])
else
Option.bind (repL [(0 : Int)] (max (0 : Int) (((v_one.length : Int) - (v_other.length : Int)) + (1 : Int)))) fun t =>
Option.bind (whileC (y_quotient_of_c1 v_other) (y_quotient_of_b1 v_other) (t, v_one)) fun c =>
match c with
| .rt t => some t
| .nx r =>
Option.bind (if (decide (r.2 = [])) = true then (Option.bind (y_trimmed r.1) fun t12 => some (some t12)) else (some none)) fun t13 =>
some t13
def y_quotient (v_one : (List Int)) (v_other : (List Int)) : Option (Ex (Option (List Int))) :=
Option.bind (y_look_at_poly ((eT PyData.int) v_one)) fun c =>
match c with
| .ex x1 => some (.ex x1)
| .ok u =>
Option.bind (y_look_at_some ((eT PyData.int) v_other)) fun c1 =>
match c1 with
| .ex x2 => some (.ex x2)
| .ok u1 =>
Option.bind (y_quotient_of v_one v_other) fun t =>
some (.ok t)
def y__law_int (b : Bag)  : Option (Int × Bag) :=
Option.bind (takeC b (8 : Int)) fun t =>
if (decide (t.1 < (5 : Int))) = true then
Option.bind (takeC t.2 (13 : Int)) fun t1 =>
some ((t1.1 - (6 : Int)), t1.2)
else
if (decide (t.1 < (7 : Int))) = true then
Option.bind (takeC t.2 (201 : Int)) fun t2 =>
some ((t2.1 - (100 : Int)), t2.2)
else
Option.bind (mulC (2 : Int) (1000000 : Int)) fun t3 =>
Option.bind (takeC t.2 (t3 + (1 : Int))) fun t4 =>
some ((t4.1 - (1000000 : Int)), t4.2)
def y__law_trim_c1  (s : (List Int)) : Option Bool :=
(Option.bind (if (!decide (s = ([] : List Int))) = true then (Option.bind (atI s (-(1 : Int))) fun t => some (decide (t = (0 : Int)))) else some false) fun t1 => some t1)
def y__law_trim_b1  (s : (List Int)) : Option (((List Int))) :=
Option.bind (popC s) fun t2 =>
some t2
def y__law_trim (v_row : (Bool × List Int)) : Option (List Int) :=
Option.bind (whileO (y__law_trim_c1) (y__law_trim_b1) v_row.2) fun r =>
some r
def y__law_mul_b2 (v_k : Int) (v_a : Int) (s_1 : (List Int)) (x_1 : (Int × Int)) : Option (((List Int))) :=
Option.bind (atI s_1 (v_k + x_1.1)) fun t1 =>
Option.bind (mulC v_a x_1.2) fun t2 =>
Option.bind (setC s_1 (v_k + x_1.1) (t1 + t2)) fun t3 =>
some t3
def y__law_mul_b1 (v_g : (List Int)) (s : (List Int)) (x : (Int × Int)) : Option (((List Int))) :=
Option.bind (forO (y__law_mul_b2 x.1 x.2) (enumZ v_g) s) fun r =>
some r
def y__law_mul (v_f : (List Int)) (v_g : (List Int)) : Option (List Int) :=
Option.bind (repL [(0 : Int)] ((v_f.length : Int) + (v_g.length : Int))) fun t =>
Option.bind (forO (y__law_mul_b1 v_g) (enumZ v_f) t) fun r1 =>
Option.bind (y__law_trim (true, r1)) fun t4 =>
some t4
def y__law_poly (b : Bag) (v_most : Int) : Option ((List Int) × Bag) :=
Option.bind (takeC b (v_most + (1 : Int))) fun t =>
Option.bind (rng1 ((1 : Int) + t.1)) fun t1 =>
Option.bind (mapBC (fun b1 x1 => (Option.bind (y__law_int b1) fun t2 => some (t2.1, t2.2))) t1 t.2) fun t3 =>
Option.bind (takeC t3.2 (3 : Int)) fun t4 =>
Option.bind (if (decide (t4.1 = (0 : Int))) = true then
Option.bind (mapBC (fun b2 x2 => (Option.bind (takeC b2 (2 : Int)) fun t5 => Option.bind (mulC x2 t5.1) fun t6 => some (t6, t5.2))) t3.1 t4.2) fun t7 =>
some (t7.1, t7.2)
else
some (t3.1, t4.2)) fun j =>
Option.bind (atI j.1 (-(1 : Int))) fun t8 =>
Option.bind (if (decide (t8 = (0 : Int))) = true then
Option.bind (takeC j.2 (5 : Int)) fun t9 =>
Option.bind (setC j.1 (-(1 : Int)) ((1 : Int) + t9.1)) fun t10 =>
some (t10, t9.2)
else
some (j.1, j.2)) fun j1 =>
some (j1.1, j1.2)
def y__law_gcd_c2  (s_1 : Int × Int) : Option Bool :=
(some (!decide (s_1.2 = (0 : Int))))
def y__law_gcd_b2  (s_1 : Int × Int) : Option ((Int × Int)) :=
Option.bind (modC s_1.1 s_1.2) fun t =>
some (s_1.2, t)
def y__law_gcd_b1  (s : Int) (x : Int) : Option ((Int)) :=
Option.bind (some (x.natAbs : Int)) fun v_a =>
Option.bind (whileO (y__law_gcd_c2) (y__law_gcd_b2) (s, v_a)) fun r =>
some r.1
def y__law_gcd (v_row : (List Int)) : Option Int :=
Option.bind (some (0 : Int)) fun v_found =>
Option.bind (forO (y__law_gcd_b1) v_row v_found) fun r1 =>
some r1
def y__law_plain (v_f : (List Int)) : Option (List Int) :=
Option.bind (y__law_gcd v_f) fun t =>
if (decide (t = (0 : Int))) = true then
some []
else
Option.bind (atI v_f (-(1 : Int))) fun t1 =>
Option.bind (if (decide (t1 < (0 : Int))) = true then
Option.bind (some ((0 : Int) - t)) fun v_part =>
some v_part
else
some t) fun j =>
Option.bind (mapC (fun x1 => (Option.bind (fdivQ x1 j) fun t2 => some t2)) v_f) fun t3 =>
some t3
def y__law_divided_b2 (v_at : Int) (v_by : Int) (s_1 : (List Int)) (x_1 : (Int × Int)) : Option (((List Int))) :=
Option.bind (atI s_1 (v_at + x_1.1)) fun t6 =>
Option.bind (mulC v_by x_1.2) fun t7 =>
Option.bind (setC s_1 (v_at + x_1.1) (t6 - t7)) fun t8 =>
some t8
def y__law_divided_b1 (v_g : (List Int)) (s : (List Int) × (List Int)) (x : Int) : Option (((List Int) × (List Int))) :=
Option.bind (atI s.2 ((x + (v_g.length : Int)) - (1 : Int))) fun t2 =>
Option.bind (atI v_g (-(1 : Int))) fun t3 =>
Option.bind (fdivQ t2 t3) fun t4 =>
Option.bind (setC s.1 x t4) fun t5 =>
Option.bind (forO (y__law_divided_b2 x t4) (enumZ v_g) s.2) fun r =>
some (t5, r)
def y__law_divided (v_f : (List Int)) (v_g : (List Int)) : Option (Option (List Int)) :=
Option.bind (repL [(0 : Int)] (max (0 : Int) (((v_f.length : Int) - (v_g.length : Int)) + (1 : Int)))) fun t =>
Option.bind (rng3 ((v_f.length : Int) - (v_g.length : Int)) (-(1 : Int))) fun t1 =>
Option.bind (forO (y__law_divided_b1 v_g) t1 (t, v_f)) fun r1 =>
Option.bind (y__law_trim (true, r1.2)) fun t9 =>
Option.bind (if (decide (t9 = [])) = true then (Option.bind (y__law_trim (true, r1.1)) fun t10 => some (some t10)) else (some none)) fun t11 =>
some t11
def y_law_k06_b1  (s : Unit) (x : (List Int)) : Option (Ctl (Unit) Bool) :=
Option.bind (okC (y_plain x)) fun t12 =>
Option.bind (y__law_plain x) fun t13 =>
Option.bind (sameC ((eT PyData.int) t12) ((eT PyData.int) t13)) fun t14 =>
if (!t14) = true then
some (.rt false)
else
some (.nx ())
def y_law_k06_b2  (s : Unit) (x : ((List Int) × (List Int))) : Option (Ctl (Unit) Bool) :=
Option.bind (y__law_trim (false, x.2)) fun t29 =>
if ((decide (t29 = x.2)) && (!decide (x.2 = []))) = true then
Option.bind (okC (y_quotient x.1 x.2)) fun t30 =>
Option.bind (y__law_divided x.1 x.2) fun t31 =>
Option.bind (sameC ((eO (eT PyData.int)) t30) ((eO (eT PyData.int)) t31)) fun t32 =>
if (!t32) = true then
some (.rt false)
else
some (.nx ())
else
some (.nx ())
def y_law_k06 (b : Bag) : Option (Ctl Unit Bool) :=
Option.bind (y__law_poly b (6 : Int)) fun t =>
Option.bind (y__law_poly t.2 (6 : Int)) fun t1 =>
Option.bind (y__law_int t1.2) fun t2 =>
Option.bind (mapC (fun x1 => (Option.bind (mulC x1 t2.1) fun t3 => some t3)) t.1) fun t4 =>
Option.bind (y__law_int t2.2) fun t5 =>
Option.bind (takeC t5.2 (t4.length : Int)) fun t6 =>
Option.bind (setC t4 t6.1 t5.1) fun t7 =>
Option.bind (if (!decide (t2.1 = (0 : Int))) = true then (Option.bind (mapC (fun x2 => (Option.bind (mulC x2 t2.1) fun t8 => some t8)) t.1) fun t9 => some t9) else (some [])) fun t10 =>
Option.bind (y__law_trim (true, t7)) fun t11 =>
Option.bind (forC (y_law_k06_b1) [t.1, t10, t11] ()) fun c =>
match c with
| .rt t => some (.rt t)
| .nx r =>
Option.bind (y__law_mul t.1 t1.1) fun t15 =>
Option.bind (okC (y_quotient t15 t.1)) fun t16 =>
Option.bind (sameC ((eO (eT PyData.int)) t16) ((eT PyData.int) t1.1)) fun t17 =>
Option.bind (if (!t17) = true then some true else (Option.bind (okC (y_quotient t15 t1.1)) fun t18 => Option.bind (sameC ((eO (eT PyData.int)) t18) ((eT PyData.int) t.1)) fun t19 => some (!t19))) fun t20 =>
if t20 = true then
some (.rt false)
else
Option.bind (takeC t6.2 (t15.length : Int)) fun t21 =>
Option.bind (atI t15 t21.1) fun t22 =>
Option.bind (takeC t21.2 (2 : Int)) fun t23 =>
Option.bind (mulC (2 : Int) t23.1) fun t24 =>
Option.bind (setC t15 t21.1 ((t22 + (1 : Int)) - t24)) fun t25 =>
Option.bind (y__law_trim (true, t25)) fun t26 =>
Option.bind (y__law_trim (true, t7)) fun t27 =>
Option.bind (catC [(2 : Int)] (cutZ t.1 (some (1 : Int)) none)) fun t28 =>
Option.bind (forC (y_law_k06_b2) [(t.1, t1.1), (t26, t1.1), (t27, t.1), (t.1, [t2.1]), (t15, t28)] ()) fun c1 =>
match c1 with
| .rt t => some (.rt t)
| .nx r1 =>
some (.nx ())
def askN_k05 : Xn → Option (Str × Str)
  | .NoRatio => some ("refused", "NoRatio")
  | .NoPoly => some ("refused", "other")
  | _ => none
def y_lowest (v_top : Int) (v_bottom : Int) : Option (Int × Int) :=
Option.bind (y_greatest v_top v_bottom) fun t =>
Option.bind (if (decide (v_bottom < (0 : Int))) = true then
Option.bind (some ((0 : Int) - t)) fun v_part =>
some v_part
else
some t) fun j =>
Option.bind (fdivC v_top j) fun t1 =>
Option.bind (fdivC v_bottom j) fun t2 =>
some (t1, t2)
def y_degree_of (v_poly : (List Int)) : Option Int :=
some ((v_poly.length : Int) - (1 : Int))
def y_multiplied_b2 (v_k : Int) (v_here : Int) (s_1 : (List Int)) (x_1 : (Int × Int)) : Option (((List Int))) :=
Option.bind (atI s_1 (v_k + x_1.1)) fun t1 =>
Option.bind (mulC v_here x_1.2) fun t2 =>
Option.bind (setC s_1 (v_k + x_1.1) (t1 + t2)) fun t3 =>
some t3
def y_multiplied_b1 (v_other : (List Int)) (s : (List Int)) (x : (Int × Int)) : Option (((List Int))) :=
Option.bind (forO (y_multiplied_b2 x.1 x.2) (enumZ v_other) s) fun r =>
some r
def y_multiplied (v_one : (List Int)) (v_other : (List Int)) : Option (List Int) :=
if ((decide (v_one = [])) || (decide (v_other = []))) = true then
some []
else
Option.bind (repL [(0 : Int)] (((v_one.length : Int) + (v_other.length : Int)) - (1 : Int))) fun t =>
Option.bind (forO (y_multiplied_b1 v_other) (enumZ v_one) t) fun r1 =>
Option.bind (y_trimmed r1) fun t4 =>
some t4
def y_poly_plus (v_one : (List Int)) (v_other : (List Int)) : Option (Ex (List Int)) :=
Option.bind (y_look_at_poly ((eT PyData.int) v_one)) fun c =>
match c with
| .ex x1 => some (.ex x1)
| .ok u =>
Option.bind (y_look_at_poly ((eT PyData.int) v_other)) fun c1 =>
match c1 with
| .ex x2 => some (.ex x2)
| .ok u1 =>
Option.bind (y_added v_one v_other) fun t =>
some (.ok t)
def y_poly_times (v_one : (List Int)) (v_other : (List Int)) : Option (Ex (List Int)) :=
Option.bind (y_look_at_poly ((eT PyData.int) v_one)) fun c =>
match c with
| .ex x1 => some (.ex x1)
| .ok u =>
Option.bind (y_look_at_poly ((eT PyData.int) v_other)) fun c1 =>
match c1 with
| .ex x2 => some (.ex x2)
| .ok u1 =>
Option.bind (y_multiplied v_one v_other) fun t =>
some (.ok t)
def y_top_at_b1 (v_top : Int) (v_bottom : Int) (s : Int × Int) (x : Int) : Option ((Int × Int)) :=
Option.bind (mulC s.1 v_top) fun t =>
Option.bind (mulC x s.2) fun t1 =>
Option.bind (some (t + t1)) fun v_found1 =>
Option.bind (mulC s.2 v_bottom) fun t2 =>
some (v_found1, t2)
def y_top_at (v_poly : (List Int)) (v_number : (Int × Int)) : Option Int :=
Option.bind (some (0 : Int)) fun v_found =>
Option.bind (some (1 : Int)) fun v_power =>
Option.bind (forO (y_top_at_b1 v_number.1 v_number.2) v_poly.reverse (v_found, v_power)) fun r =>
some r.1
def y_value_at_b1 (v_number : PyData) (s : Int) (x : Int) : Option ((Int)) :=
Option.bind (asR v_number) fun t3 =>
Option.bind (mulC s t3.2) fun t4 =>
some t4
def y_value_at (v_poly : (List Int)) (v_number : PyData) : Option (Ex (Int × Int)) :=
Option.bind (y_look_at_poly ((eT PyData.int) v_poly)) fun c =>
match c with
| .ex x1 => some (.ex x1)
| .ok u =>
Option.bind (y_is_ratio v_number) fun t =>
if (!t) = true then
some (.ex .NoRatio)
else
Option.bind (some (1 : Int)) fun v_power =>
Option.bind (y_degree_of v_poly) fun t1 =>
Option.bind (rng1 t1) fun t2 =>
Option.bind (forO (y_value_at_b1 v_number) t2 v_power) fun r =>
Option.bind (asR v_number) fun t5 =>
Option.bind (y_top_at v_poly t5) fun t6 =>
Option.bind (y_lowest t6 r) fun t7 =>
some (.ok t7)
def y__law_low_c1  (s : Int × Int) : Option Bool :=
(some (!decide (s.2 = (0 : Int))))
def y__law_low_b1  (s : Int × Int) : Option ((Int × Int)) :=
Option.bind (modC s.1 s.2) fun t =>
some (s.2, t)
def y__law_low (v_t : Int) (v_b : Int) : Option (Int × Int) :=
Option.bind (some (v_t.natAbs : Int)) fun v_x =>
Option.bind (some (v_b.natAbs : Int)) fun v_y =>
Option.bind (whileO (y__law_low_c1) (y__law_low_b1) (v_x, v_y)) fun r =>
Option.bind (if (decide (v_b < (0 : Int))) = true then
Option.bind (some ((0 : Int) - r.1)) fun v_x1 =>
some v_x1
else
some r.1) fun j =>
Option.bind (fdivC v_t j) fun t1 =>
Option.bind (fdivC v_b j) fun t2 =>
some (t1, t2)
def y__law_wide (b : Bag)  : Option (Int × Bag) :=
Option.bind (takeC b (4 : Int)) fun t =>
if (decide (t.1 < (2 : Int))) = true then
Option.bind (y__law_int t.2) fun t1 =>
some (t1.1, t1.2)
else
if (decide (t.1 = (2 : Int))) = true then
Option.bind (mulC (2 : Int) (1000000000000000 : Int)) fun t2 =>
Option.bind (takeC t.2 (t2 + (1 : Int))) fun t3 =>
some ((t3.1 - (1000000000000000 : Int)), t3.2)
else
Option.bind (takeC t.2 (5 : Int)) fun t4 =>
Option.bind (atI [(0 : Int), (1 : Int), (-(1 : Int)), (1000000000000000 : Int), ((0 : Int) - (1000000000000000 : Int))] t4.1) fun t5 =>
some (t5, t4.2)
def y__law_ratio (b : Bag)  : Option ((Int × Int) × Bag) :=
Option.bind (y__law_int b) fun t =>
Option.bind (takeC t.2 (4 : Int)) fun t1 =>
Option.bind (takeC t1.2 (30 : Int)) fun t2 =>
Option.bind (takeC t2.2 (2 : Int)) fun t3 =>
Option.bind (atI [t1.1, t2.1] t3.1) fun t4 =>
Option.bind (y__law_low t.1 ((1 : Int) + t4)) fun t5 =>
some (t5, t3.2)
def y__law_sum (v_f : (Bool × List Int)) (v_g : (List Int)) : Option (List Int) :=
Option.bind (some (max (v_f.2.length : Int) (v_g.length : Int))) fun v_many =>
Option.bind (repT [(0 : Int)] (v_many - (v_f.2.length : Int))) fun t =>
Option.bind (catC v_f.2 t) fun t1 =>
Option.bind (repT [(0 : Int)] (v_many - (v_g.length : Int))) fun t2 =>
Option.bind (catC v_g t2) fun t3 =>
Option.bind (mapC (fun x1 => (some (x1.1 + x1.2))) (t1.zip t3)) fun t4 =>
Option.bind (y__law_trim (true, t4)) fun t5 =>
some t5
def y__law_at_b1 (v_q : (Int × Int)) (s : Int × Int) (x : Int) : Option ((Int × Int)) :=
Option.bind (mulC s.1 v_q.1) fun t =>
Option.bind (mulC x s.2) fun t1 =>
Option.bind (some (t + t1)) fun v_top1 =>
Option.bind (mulC s.2 v_q.2) fun t2 =>
some (v_top1, t2)
def y__law_at (v_f : (List Int)) (v_q : (Int × Int)) : Option (Int × Int) :=
Option.bind (some (0 : Int)) fun v_top =>
Option.bind (some (1 : Int)) fun v_power =>
Option.bind (forO (y__law_at_b1 v_q) v_f.reverse (v_top, v_power)) fun r =>
Option.bind (if (decide (v_f = [])) = true then (Option.bind (y__law_low r.1 r.2) fun t3 => some t3) else (Option.bind (fdivC r.2 v_q.2) fun t4 => Option.bind (y__law_low r.1 t4) fun t5 => some t5)) fun t6 =>
some t6
def y__law_odd (b : Bag)  : Option (PyData × Bag) :=
Option.bind (takeC b (11 : Int)) fun t =>
Option.bind (atI [(eU ()), (PyData.bool true), (PyData.bool false), (PyData.str ("" : Str)), (PyData.str ("1" : Str)), (PyData.tuple []), (PyData.list []), ((eT PyData.int) [(1 : Int)]), ((eL PyData.int) [(1 : Int), (1 : Int)]), ((eP PyData.int PyData.int) ((1 : Int), (1 : Int))), ((eP eU PyData.int) ((), (1 : Int)))] t.1) fun t1 =>
some (t1, t.2)
def y__law_wide_poly (b : Bag)  : Option ((List Int) × Bag) :=
Option.bind (takeC b (14 : Int)) fun t =>
Option.bind (rng1 t.1) fun t1 =>
Option.bind (mapBC (fun b1 x1 => (Option.bind (y__law_wide b1) fun t2 => some (t2.1, t2.2))) t1 t.2) fun t3 =>
Option.bind (y__law_trim (true, t3.1)) fun t4 =>
some (t4, t3.2)
def y_law_k05_b1 (v_f : (List Int)) (s : Unit) (x : (Int × Int)) : Option (Ctl (Unit) Bool) :=
Option.bind (okC (y_value_at v_f ((eP PyData.int PyData.int) x))) fun t18 =>
Option.bind (y__law_at v_f x) fun t19 =>
Option.bind (sameC ((eP PyData.int PyData.int) t18) ((eP PyData.int PyData.int) t19)) fun t20 =>
if (!t20) = true then
some (.rt false)
else
some (.nx ())
def y_law_k05 (b : Bag) : Option (Ctl Unit Bool) :=
Option.bind (y__law_wide_poly b) fun t =>
Option.bind (y__law_wide_poly t.2) fun t1 =>
Option.bind (takeC t1.2 (2 : Int)) fun t2 =>
Option.bind (if (decide (t2.1 = (0 : Int))) = true then
Option.bind (mapBC (fun b1 x1 => (Option.bind (takeC b1 (3 : Int)) fun t3 => Option.bind (atI [(0 : Int), (0 : Int), (1 : Int)] t3.1) fun t4 => some ((((0 : Int) - x1) + t4), t3.2))) t.1 t2.2) fun t5 =>
Option.bind (y__law_trim (true, t5.1)) fun t6 =>
some (t6, t5.2)
else
some (t1.1, t2.2)) fun j =>
Option.bind (okC (y_poly_plus t.1 j.1)) fun t7 =>
Option.bind (y__law_sum (false, t.1) j.1) fun t8 =>
Option.bind (sameC ((eT PyData.int) t7) ((eT PyData.int) t8)) fun t9 =>
Option.bind (if (!t9) = true then some true else (Option.bind (okC (y_poly_times t.1 j.1)) fun t10 => Option.bind (y__law_mul t.1 j.1) fun t11 => Option.bind (sameC ((eT PyData.int) t10) ((eT PyData.int) t11)) fun t12 => some (!t12))) fun t13 =>
if t13 = true then
some (.rt false)
else
Option.bind (y__law_ratio j.2) fun t14 =>
Option.bind (takeC t14.2 (1000000000000000 : Int)) fun t15 =>
Option.bind (mulC (5 : Int) (100000000000000 : Int)) fun t16 =>
Option.bind (y__law_ratio t15.2) fun t17 =>
Option.bind (forC (y_law_k05_b1 t.1) [t14.1, ((0 : Int), (1 : Int)), ((t15.1 - t16), (1 : Int)), t17.1] ()) fun c =>
match c with
| .rt t => some (.rt t)
| .nx r =>
Option.bind (y__law_odd t17.2) fun t21 =>
Option.bind (takeC t21.2 (6 : Int)) fun t22 =>
Option.bind (atI [t21.1, ((eP PyData.int PyData.int) ((2 : Int), (4 : Int))), ((eP PyData.int PyData.int) ((0 : Int), (2 : Int))), ((eL PyData.int) [(1 : Int), (2 : Int)]), (PyData.int (3 : Int)), ((eP PyData.int PyData.int) ((1 : Int), (-(1 : Int))))] t22.1) fun t23 =>
Option.bind (eqC t23 ((eP PyData.int PyData.int) ((1 : Int), (1 : Int)))) fun t24 =>
Option.bind (if (!t24) = true then (Option.bind (y_value_at t.1 t23) fun t25 => Option.bind (askV askN_k05 (eP PyData.int PyData.int) t25) fun t26 => Option.bind (eqC t26 ((eP PyData.str PyData.str) (("refused" : Str), ("NoRatio" : Str)))) fun t27 => some (!t27)) else some false) fun t28 =>
if t28 = true then
some (.rt false)
else
some (.nx ())
def askN_k02 : Xn → Option (Str × Str)
  | .NoRatio => some ("refused", "NoRatio")
  | .NothingBetween => some ("refused", "NothingBetween")
  | _ => none
def y_sign (v_number : Int) : Option Int :=
some ((if (decide ((0 : Int) < v_number)) = true then (1 : Int) else 0) - (if (decide (v_number < (0 : Int))) = true then (1 : Int) else 0))
def y_r_side (v_one : (Int × Int)) (v_other : (Int × Int)) : Option Int :=
Option.bind (mulC v_one.1 v_other.2) fun t =>
Option.bind (mulC v_other.1 v_one.2) fun t1 =>
Option.bind (y_sign (t - t1)) fun t2 =>
some t2
def y_simplest_above_c1  (s : (List Int) × (Int × Int) × (Int × Int)) : Option Bool :=
(some true)
def y_simplest_above_b2  (s_1 : Int × Int) (x_1 : Int) : Option ((Int × Int)) :=
Option.bind (mulC x_1 s_1.1) fun t2 =>
Option.bind (some (t2 + s_1.2)) fun v_top1 =>
some (v_top1, s_1.1)
def y_simplest_above_b1  (s : (List Int) × (Int × Int) × (Int × Int)) : Option (Ctl ((List Int) × (Int × Int) × (Int × Int)) (Int × Int)) :=
Option.bind (fdivC s.2.2.1 s.2.2.2) fun t =>
Option.bind (mulC (t + (1 : Int)) s.2.1.2) fun t1 =>
if (decide (t1 < s.2.1.1)) = true then
Option.bind (some (t + (1 : Int))) fun v_top =>
Option.bind (some (1 : Int)) fun v_bottom =>
Option.bind (forO (y_simplest_above_b2) s.1.reverse (v_top, v_bottom)) fun r =>
Option.bind (y_lowest r.1 r.2) fun t3 =>
some (.rt t3)
else
Option.bind (appC s.1 t) fun t4 =>
Option.bind (mulC t s.2.1.2) fun t5 =>
Option.bind (some (s.2.1.2, (s.2.1.1 - t5))) fun v_later =>
Option.bind (mulC t s.2.2.2) fun t6 =>
Option.bind (some (s.2.2.2, (s.2.2.1 - t6))) fun v_second =>
some (.nx (t4, v_second, v_later))
def y_simplest_above (v_low : (Int × Int)) (v_high : (Int × Int)) : Option (Int × Int) :=
Option.bind (some (([] : List Int) : (List Int))) fun v_parts =>
Option.bind (whileC (y_simplest_above_c1) (y_simplest_above_b1) (v_parts, v_high, v_low)) fun c =>
match c with
| .rt t => some t
| .nx r1 =>
none
def y_simplest (v_low : PyData) (v_high : PyData) : Option (Ex (Int × Int)) :=
Option.bind (y_is_ratio v_low) fun t =>
Option.bind (if (!t) = true then some true else (Option.bind (y_is_ratio v_high) fun t1 => some (!t1))) fun t2 =>
if t2 = true then
some (.ex .NoRatio)
else
Option.bind (asR v_low) fun t3 =>
Option.bind (asR v_high) fun t4 =>
Option.bind (y_r_side t3 t4) fun t5 =>
if (decide ((0 : Int) ≤ t5)) = true then
some (.ex .NothingBetween)
else
Option.bind (asR v_low) fun t6 =>
Option.bind (if (decide (t6.1 < (0 : Int))) = true then (Option.bind (asR v_high) fun t7 => some (decide ((0 : Int) < t7.1))) else some false) fun t8 =>
if t8 = true then
some (.ok ((0 : Int), (1 : Int)))
else
Option.bind (asR v_high) fun t9 =>
if (decide (t9.1 ≤ (0 : Int))) = true then
Option.bind (asR v_high) fun t10 =>
Option.bind (asR v_high) fun t11 =>
Option.bind (asR v_low) fun t12 =>
Option.bind (asR v_low) fun t13 =>
Option.bind (y_simplest_above (((0 : Int) - t10.1), t11.2) (((0 : Int) - t12.1), t13.2)) fun t14 =>
some (.ok (((0 : Int) - t14.1), t14.2))
else
Option.bind (asR v_low) fun t15 =>
Option.bind (asR v_high) fun t16 =>
Option.bind (y_simplest_above t15 t16) fun t17 =>
some (.ok t17)
def y__law_sgn (v_n : Int) : Option Int :=
some ((if (decide ((0 : Int) < v_n)) = true then (1 : Int) else 0) - (if (decide (v_n < (0 : Int))) = true then (1 : Int) else 0))
def y__law_cmp (v_q : (Int × Int)) (v_r : (Int × Int)) : Option Int :=
Option.bind (mulC v_q.1 v_r.2) fun t =>
Option.bind (mulC v_r.1 v_q.2) fun t1 =>
Option.bind (y__law_sgn (t - t1)) fun t2 =>
some t2
def y__law_path_b1  (s : (Int × Int) × (Int × Int) × Bag) (x : Int) : Option (((Int × Int) × (Int × Int) × Bag)) :=
Option.bind (takeC s.2.2 (60 : Int)) fun t3 =>
Option.bind (takeC t3.2 (2 : Int)) fun t4 =>
Option.bind (atI [(1 : Int), t3.1] t4.1) fun t5 =>
Option.bind (modC x (2 : Int)) fun t6 =>
if (decide (t6 = (0 : Int))) = true then
Option.bind (mulC t5 s.2.1.1) fun t7 =>
Option.bind (mulC t5 s.2.1.2) fun t8 =>
Option.bind (some ((s.1.1 + t7), (s.1.2 + t8))) fun v_a1 =>
some (v_a1, s.2.1, t4.2)
else
Option.bind (mulC t5 s.1.1) fun t9 =>
Option.bind (mulC t5 s.1.2) fun t10 =>
Option.bind (some ((s.2.1.1 + t9), (s.2.1.2 + t10))) fun v_b1 =>
some (s.1, v_b1, t4.2)
def y__law_path (b : Bag)  : Option (((Int × Int) × (Int × Int) × (Int × Int)) × Bag) :=
Option.bind (takeC b (50 : Int)) fun t =>
Option.bind (some (t.1, (1 : Int))) fun v_a =>
Option.bind (some ((v_a.1 + (1 : Int)), (1 : Int))) fun v_b =>
Option.bind (takeC t.2 (8 : Int)) fun t1 =>
Option.bind (rng1 t1.1) fun t2 =>
Option.bind (forO (y__law_path_b1) t2 (v_a, v_b, t1.2)) fun r =>
Option.bind (some ((r.1.1 + r.2.1.1), (r.1.2 + r.2.1.2))) fun v_met =>
Option.bind (takeC r.2.2 (2 : Int)) fun t11 =>
if (decide (t11.1 = (0 : Int))) = true then
some ((r.1, r.2.1, v_met), t11.2)
else
some (((((0 : Int) - r.2.1.1), r.2.1.2), (((0 : Int) - r.1.1), r.1.2), (((0 : Int) - v_met.1), v_met.2)), t11.2)
def y__law_none_less_b1 (v_low : (Int × Int)) (v_high : (Int × Int)) (s : Unit) (x : Int) : Option (Ctl (Unit) Bool) :=
Option.bind (mulC v_low.1 x) fun t1 =>
Option.bind (fdivC t1 v_low.2) fun t2 =>
Option.bind (y__law_cmp ((t2 + (1 : Int)), x) v_high) fun t3 =>
if (decide (t3 < (0 : Int))) = true then
some (.rt false)
else
some (.nx ())
def y__law_none_less (v_low : (Int × Int)) (v_high : (Int × Int)) (v_s : (Int × Int)) : Option Bool :=
Option.bind (rng2 (1 : Int) (min v_s.2 (80 : Int))) fun t =>
Option.bind (forC (y__law_none_less_b1 v_low v_high) t ()) fun c =>
match c with
| .rt t => some t
| .nx r =>
Option.bind (if (decide ((0 : Int) < v_s.1)) = true then (Option.bind (y__law_cmp v_low ((v_s.1 - (1 : Int)), v_s.2)) fun t4 => some (decide (t4 < (0 : Int)))) else some false) fun t5 =>
if t5 = true then
some false
else
Option.bind (if (decide ((0 : Int) ≤ v_s.1)) = true then some true else (Option.bind (y__law_cmp ((v_s.1 + (1 : Int)), v_s.2) v_high) fun t6 => some (decide ((0 : Int) ≤ t6)))) fun t7 =>
some t7
def y_law_k02_b1  (s : Unit) (x : (PyData × PyData)) : Option (Ctl (Unit) Bool) :=
Option.bind (y_simplest x.1 x.2) fun t34 =>
Option.bind (askV askN_k02 (eP PyData.int PyData.int) t34) fun t35 =>
Option.bind (eqC t35 ((eP PyData.str PyData.str) (("refused" : Str), ("NoRatio" : Str)))) fun t36 =>
if (!t36) = true then
some (.rt false)
else
some (.nx ())
def y_law_k02 (b : Bag) : Option (Ctl Unit Bool) :=
Option.bind (y__law_ratio b) fun t =>
Option.bind (takeC t.2 (60 : Int)) fun t1 =>
Option.bind (y__law_low (1 : Int) ((1 : Int) + t1.1)) fun t2 =>
Option.bind (y__law_ratio t1.2) fun t3 =>
Option.bind (takeC t3.2 (2 : Int)) fun t4 =>
Option.bind (atI [t2, t3.1] t4.1) fun t5 =>
Option.bind (mulC t.1.1 t5.2) fun t6 =>
Option.bind (mulC t5.1 t.1.2) fun t7 =>
Option.bind (mulC t.1.2 t5.2) fun t8 =>
Option.bind (y__law_low (t6 + t7) t8) fun t9 =>
Option.bind (y__law_cmp t.1 t9) fun t10 =>
Option.bind (if (decide ((0 : Int) < t10)) = true then
some (t9, t.1)
else
some (t.1, t9)) fun j =>
Option.bind ((if (decide (j.1 = j.2)) = true then
Option.bind (y_simplest ((eP PyData.int PyData.int) j.1) ((eP PyData.int PyData.int) j.2)) fun t11 =>
Option.bind (askV askN_k02 (eP PyData.int PyData.int) t11) fun t12 =>
Option.bind (eqC t12 ((eP PyData.str PyData.str) (("refused" : Str), ("NothingBetween" : Str)))) fun t13 =>
if (!t13) = true then
some (.rt false)
else
some (.nx ())
else
Option.bind (okC (y_simplest ((eP PyData.int PyData.int) j.1) ((eP PyData.int PyData.int) j.2))) fun t14 =>
Option.bind (if (!(isT ((eP PyData.int PyData.int) t14))) = true then some true else (Option.bind (if (!decide (([t14.1, t14.2].length : Int) = (2 : Int))) = true then some true else (Option.bind (y__law_low t14.1 t14.2) fun t15 => Option.bind (sameC ((eP PyData.int PyData.int) t14) ((eP PyData.int PyData.int) t15)) fun t16 => some (!t16))) fun t17 => some t17)) fun t18 =>
if t18 = true then
some (.rt false)
else
Option.bind (y__law_cmp j.1 t14) fun t19 =>
Option.bind (if (decide ((0 : Int) ≤ t19)) = true then some true else (Option.bind (y__law_cmp t14 j.2) fun t20 => Option.bind (if (decide ((0 : Int) ≤ t20)) = true then some true else (Option.bind (y__law_none_less j.1 j.2 t14) fun t21 => some (!t21))) fun t22 => some t22)) fun t23 =>
if t23 = true then
some (.rt false)
else
Option.bind (y_simplest ((eP PyData.int PyData.int) j.2) ((eP PyData.int PyData.int) j.1)) fun t24 =>
Option.bind (askV askN_k02 (eP PyData.int PyData.int) t24) fun t25 =>
Option.bind (eqC t25 ((eP PyData.str PyData.str) (("refused" : Str), ("NothingBetween" : Str)))) fun t26 =>
if (!t26) = true then
some (.rt false)
else
some (.nx ()) : Option (Ctl (Unit) Bool))) fun c =>
match c with
| .rt t => some (.rt t)
| .nx j1 =>
Option.bind (y__law_path t4.2) fun t27 =>
Option.bind (okC (y_simplest ((eP PyData.int PyData.int) t27.1.1) ((eP PyData.int PyData.int) t27.1.2.1))) fun t28 =>
Option.bind (sameC ((eP PyData.int PyData.int) t28) ((eP PyData.int PyData.int) t27.1.2.2)) fun t29 =>
if (!t29) = true then
some (.rt false)
else
Option.bind (y__law_odd t27.2) fun t30 =>
Option.bind (takeC t30.2 (5 : Int)) fun t31 =>
Option.bind (atI [t30.1, ((eP PyData.int PyData.int) ((2 : Int), (4 : Int))), ((eP PyData.int PyData.int) ((1 : Int), (0 : Int))), ((eP PyData.int PyData.int) ((1 : Int), (-(2 : Int)))), (PyData.int (3 : Int))] t31.1) fun t32 =>
Option.bind (eqC t32 ((eP PyData.int PyData.int) ((1 : Int), (1 : Int)))) fun t33 =>
if (!t33) = true then
Option.bind (forC (y_law_k02_b1) [(t32, ((eP PyData.int PyData.int) t27.1.2.1)), (((eP PyData.int PyData.int) t27.1.1), t32), (t32, t32)] ()) fun c1 =>
match c1 with
| .rt t => some (.rt t)
| .nx r =>
some (.nx ())
else
some (.nx ())
def y_slope_of (v_poly : (List Int)) : Option (List Int) :=
Option.bind (mapC (fun x1 => (Option.bind (mulC x1.1 x1.2) fun t => some t)) (enumZ v_poly)) fun t1 =>
Option.bind (y_trimmed (cutZ t1 (some (1 : Int)) none)) fun t2 =>
some t2
def y_rest_of_c1 (v_other : (List Int)) (v_lead : Int) (s : (List Int)) : Option Bool :=
(some (decide ((v_other.length : Int) ≤ (s.length : Int))))
def y_rest_of_b1 (v_other : (List Int)) (v_lead : Int) (s : (List Int)) : Option (((List Int))) :=
Option.bind (atI s (-(1 : Int))) fun t1 =>
Option.bind (y_sign v_lead) fun t2 =>
Option.bind (mulC t1 t2) fun t3 =>
Option.bind (repT [(0 : Int)] ((s.length : Int) - (v_other.length : Int))) fun t4 =>
Option.bind (catC t4 v_other) fun t5 =>
Option.bind (y_scaled s (v_lead.natAbs : Int)) fun t6 =>
Option.bind (y_scaled t5 t3) fun t7 =>
Option.bind (y_lessened_by t6 t7) fun t8 =>
some t8
def y_rest_of (v_one : (List Int)) (v_other : (List Int)) : Option (List Int) :=
Option.bind (atI v_other (-(1 : Int))) fun t =>
Option.bind (whileO (y_rest_of_c1 v_other t) (y_rest_of_b1 v_other t) v_one) fun r =>
some r
def y_common_of_c1  (s : (List Int) × (List Int)) : Option Bool :=
(some (!decide (s.2 = [])))
def y_common_of_b1  (s : (List Int) × (List Int)) : Option (((List Int) × (List Int))) :=
Option.bind (y_rest_of s.1 s.2) fun t2 =>
Option.bind (y_plain_of t2) fun t3 =>
some (s.2, t3)
def y_common_of (v_one : (List Int)) (v_other : (List Int)) : Option (List Int) :=
Option.bind (y_plain_of v_one) fun t =>
Option.bind (y_plain_of v_other) fun t1 =>
Option.bind (whileO (y_common_of_c1) (y_common_of_b1) (t, t1)) fun r =>
some r.1
def y_layers_of_c1  (s : (List ((List Int) × Int)) × (List Int) × (List Int) × Int) : Option Bool :=
(Option.bind (y_degree_of s.2.2.1) fun t7 => some (decide ((0 : Int) < t7)))
def y_layers_of_b1  (s : (List ((List Int) × Int)) × (List Int) × (List Int) × Int) : Option (((List ((List Int) × Int)) × (List Int) × (List Int) × Int)) :=
Option.bind (y_common_of s.2.1 s.2.2.1) fun t8 =>
Option.bind (y_quotient_of s.2.2.1 t8) fun t9 =>
Option.bind (t9) fun t10 =>
Option.bind (y_plain_of t10) fun t11 =>
Option.bind (y_degree_of t11) fun t12 =>
Option.bind (if (decide ((0 : Int) < t12)) = true then
Option.bind (appC s.1 (t11, s.2.2.2)) fun t13 =>
some t13
else
some s.1) fun j =>
Option.bind (y_quotient_of s.2.1 t8) fun t14 =>
Option.bind (t14) fun t15 =>
Option.bind (y_plain_of t15) fun t16 =>
Option.bind (some (s.2.2.2 + (1 : Int))) fun v_many1 =>
some (j, t16, t8, v_many1)
def y_layers_of (v_poly : (List Int)) : Option (List ((List Int) × Int)) :=
Option.bind (some (([] : List ((List Int) × Int)) : (List ((List Int) × Int)))) fun v_found =>
Option.bind (y_degree_of v_poly) fun t =>
if (decide (t < (1 : Int))) = true then
some v_found
else
Option.bind (y_slope_of v_poly) fun t1 =>
Option.bind (y_common_of v_poly t1) fun t2 =>
Option.bind (y_plain_of v_poly) fun t3 =>
Option.bind (y_quotient_of t3 t2) fun t4 =>
Option.bind (t4) fun t5 =>
Option.bind (y_plain_of t5) fun t6 =>
Option.bind (some (1 : Int)) fun v_many =>
Option.bind (whileO (y_layers_of_c1) (y_layers_of_b1) (v_found, t2, t6, v_many)) fun r =>
some r.1
def y_layers (v_poly : (List Int)) : Option (Ex (List ((List Int) × Int))) :=
Option.bind (y_look_at_some ((eT PyData.int) v_poly)) fun c =>
match c with
| .ex x1 => some (.ex x1)
| .ok u =>
Option.bind (y_layers_of v_poly) fun t =>
some (.ok t)
def y__law_fold_b2 (v_f : (List Int)) (s_1 : (List Int)) (x_1 : Int) : Option (((List Int))) :=
Option.bind (y__law_mul s_1 v_f) fun t1 =>
some t1
def y__law_fold_b1  (s : (List Int)) (x : ((List Int) × Int)) : Option (((List Int))) :=
Option.bind (rng1 x.2) fun t =>
Option.bind (forO (y__law_fold_b2 x.1) t s) fun r =>
some r
def y__law_fold (v_parts : (List ((List Int) × Int))) : Option (List Int) :=
Option.bind (some [(1 : Int)]) fun v_found =>
Option.bind (forO (y__law_fold_b1) v_parts v_found) fun r1 =>
some r1
def y__law_isqrt_c1 (v_n : Int) (s : Int × Int) : Option Bool :=
(some (decide (s.2 < s.1)))
def y__law_isqrt_b1 (v_n : Int) (s : Int × Int) : Option ((Int × Int)) :=
Option.bind (fdivC v_n s.2) fun t1 =>
Option.bind (fdivC (s.2 + t1) (2 : Int)) fun t2 =>
some (s.2, t2)
def y__law_isqrt (v_n : Int) : Option Int :=
if (decide (v_n < (2 : Int))) = true then
some v_n
else
Option.bind (fdivC (v_n + (1 : Int)) (2 : Int)) fun t =>
Option.bind (whileO (y__law_isqrt_c1 v_n) (y__law_isqrt_b1 v_n) (v_n, t)) fun r =>
some r.1
def y__law_is_square (v_n : Int) : Option Bool :=
Option.bind (if (decide ((0 : Int) ≤ v_n)) = true then (Option.bind (y__law_isqrt v_n) fun t => Option.bind (powC t (2 : Int)) fun t1 => some (decide (t1 = v_n))) else some false) fun t2 =>
some t2
def y__law_eisen (b : Bag) (v_size : Int) : Option ((List Int) × Bag) :=
Option.bind (takeC b (4 : Int)) fun t =>
Option.bind (atI [(2 : Int), (3 : Int), (5 : Int), (7 : Int)] t.1) fun t1 =>
Option.bind (takeC t.2 (t1 - (1 : Int))) fun t2 =>
Option.bind (mulC t1 ((1 : Int) + t2.1)) fun t3 =>
Option.bind (takeC t2.2 (2 : Int)) fun t4 =>
Option.bind (mulC (2 : Int) t4.1) fun t5 =>
Option.bind (mulC t3 ((1 : Int) - t5)) fun t6 =>
Option.bind (some [t6]) fun v_row =>
Option.bind (rng1 (v_size - (1 : Int))) fun t7 =>
Option.bind (mapBC (fun b1 x1 => (Option.bind (takeC b1 (7 : Int)) fun t8 => Option.bind (mulC t1 (t8.1 - (3 : Int))) fun t9 => some (t9, t8.2))) t7 t4.2) fun t10 =>
Option.bind (catC v_row t10.1) fun t11 =>
Option.bind (takeC t10.2 (t1 - (1 : Int))) fun t12 =>
Option.bind (catC t11 [((1 : Int) + t12.1)]) fun t13 =>
Option.bind (y__law_plain t13) fun t14 =>
some (t14, t12.2)
def y__law_quad (b : Bag)  : Option ((List Int) × Bag) :=
Option.bind (takeC b (25 : Int)) fun t =>
Option.bind (takeC t.2 (13 : Int)) fun t1 =>
Option.bind (takeC t1.2 (4 : Int)) fun t2 =>
Option.bind (some ((t.1 - (12 : Int)), (t1.1 - (6 : Int)), ((1 : Int) + t2.1))) fun v_f =>
Option.bind (powC v_f.2.1 (2 : Int)) fun t3 =>
Option.bind (mulC (4 : Int) v_f.1) fun t4 =>
Option.bind (mulC t4 v_f.2.2) fun t5 =>
Option.bind (y__law_is_square (t3 - t5)) fun t6 =>
if t6 = true then
Option.bind (takeC t2.2 (20 : Int)) fun t7 =>
some ([((1 : Int) + t7.1), (0 : Int), (1 : Int)], t7.2)
else
Option.bind (y__law_plain [v_f.1, v_f.2.1, v_f.2.2]) fun t8 =>
some (t8, t2.2)
def y__law_line (b : Bag)  : Option ((List Int) × Bag) :=
Option.bind (y__law_ratio b) fun t =>
some ([((0 : Int) - t.1.1), t.1.2], t.2)
def y__law_part (b : Bag)  : Option ((List Int) × Bag) :=
Option.bind (takeC b (7 : Int)) fun t =>
if (decide (t.1 < (3 : Int))) = true then
Option.bind (y__law_line t.2) fun t1 =>
some (t1.1, t1.2)
else
if (decide (t.1 < (5 : Int))) = true then
Option.bind (y__law_quad t.2) fun t2 =>
some (t2.1, t2.2)
else
Option.bind (takeC t.2 (2 : Int)) fun t3 =>
Option.bind (y__law_eisen t3.2 ((t.1 - (2 : Int)) + t3.1)) fun t4 =>
some (t4.1, t4.2)
def y__law_parts_b1  (s : (List ((List Int) × Int)) × Int × Bag) (x : Int) : Option (((List ((List Int) × Int)) × Int × Bag)) :=
Option.bind (y__law_part s.2.2) fun t2 =>
Option.bind (takeC t2.2 (4 : Int)) fun t3 =>
Option.bind (atI [(1 : Int), (1 : Int), (2 : Int), (3 : Int)] t3.1) fun t4 =>
Option.bind (mulC ((t2.1.length : Int) - (1 : Int)) t4) fun t5 =>
Option.bind (if (decide (t5 ≤ s.2.1)) = true then (Option.bind (mapC (fun x1 => (some x1.1)) s.1) fun t6 => some (!decide (t2.1 ∈ t6))) else some false) fun t7 =>
if t7 = true then
Option.bind (appC s.1 (t2.1, t4)) fun t8 =>
Option.bind (mulC ((t2.1.length : Int) - (1 : Int)) t4) fun t9 =>
Option.bind (some (s.2.1 - t9)) fun v_left =>
some (t8, v_left, t3.2)
else
some (s.1, s.2.1, t3.2)
def y__law_parts (b : Bag) (v_most : Int) : Option ((List ((List Int) × Int)) × Bag) :=
Option.bind (some (([] : List ((List Int) × Int)) : (List ((List Int) × Int)))) fun v_found =>
Option.bind (takeC b (5 : Int)) fun t =>
Option.bind (rng1 ((1 : Int) + t.1)) fun t1 =>
Option.bind (forO (y__law_parts_b1) t1 (v_found, v_most, t.2)) fun r =>
some (r.1, r.2.2)
def y_law_k08_b1 (v_a : (List ((List Int) × Int))) (s : (List ((List Int) × Int))) (x : Int) : Option (((List ((List Int) × Int)))) :=
Option.bind (filC (fun x1 => (some (decide (x1.2 = x)))) (fun x1 => (some (x1.1, (1 : Int)))) v_a) fun t7 =>
Option.bind (y__law_fold t7) fun t8 =>
if (!decide (t8 = [(1 : Int)])) = true then
Option.bind (appC s (t8, x)) fun t9 =>
some t9
else
some s
def y_law_k08 (b : Bag) : Option (Ctl Unit Bool) :=
Option.bind (y__law_parts b (12 : Int)) fun t =>
Option.bind (takeC t.2 (3 : Int)) fun t1 =>
Option.bind (if (decide (t1.1 = (0 : Int))) = true then
Option.bind (y__law_line t1.2) fun t2 =>
Option.bind (takeC t2.2 (12 : Int)) fun t3 =>
Option.bind (some [(t2.1, ((1 : Int) + t3.1))]) fun v_a =>
some (v_a, t3.2)
else
some (t.1, t1.2)) fun j =>
Option.bind (takeC j.2 (4 : Int)) fun t4 =>
Option.bind (atI [(1 : Int), (-(1 : Int)), (6 : Int), (-(10 : Int))] t4.1) fun t5 =>
Option.bind (some (([] : List ((List Int) × Int)) : (List ((List Int) × Int)))) fun v_due =>
Option.bind (rng2 (1 : Int) (13 : Int)) fun t6 =>
Option.bind (forO (y_law_k08_b1 j.1) t6 v_due) fun r =>
Option.bind (y__law_fold j.1) fun t10 =>
Option.bind (mapC (fun x2 => (Option.bind (mulC x2 t5) fun t11 => some t11)) t10) fun t12 =>
Option.bind (okC (y_layers t12)) fun t13 =>
Option.bind (some ((t13.map (eP (eT PyData.int) PyData.int)) : (List PyData))) fun v_told =>
Option.bind (sameC ((eL eD) v_told) ((eL (eP (eT PyData.int) PyData.int)) r)) fun t14 =>
Option.bind (if (!t14) = true then some true else (Option.bind (okC (y_layers [t5])) fun t15 => Option.bind (sameC ((eL (eP (eT PyData.int) PyData.int)) t15) (PyData.list [])) fun t16 => some (!t16))) fun t17 =>
if t17 = true then
some (.rt false)
else
Option.bind (appC v_told (eU ())) fun t18 =>
Option.bind (okC (y_layers t12)) fun t19 =>
Option.bind (sameC ((eL (eP (eT PyData.int) PyData.int)) t19) ((eL (eP (eT PyData.int) PyData.int)) r)) fun t20 =>
if (!t20) = true then
some (.rt false)
else
some (.nx ())
def y_common (v_one : (List Int)) (v_other : (List Int)) : Option (Ex (List Int)) :=
Option.bind (y_look_at_poly ((eT PyData.int) v_one)) fun c =>
match c with
| .ex x1 => some (.ex x1)
| .ok u =>
Option.bind (y_look_at_poly ((eT PyData.int) v_other)) fun c1 =>
match c1 with
| .ex x2 => some (.ex x2)
| .ok u1 =>
Option.bind (y_common_of v_one v_other) fun t =>
some (.ok t)
def y_unrepeated (v_poly : (List Int)) : Option (List Int) :=
Option.bind (y_degree_of v_poly) fun t =>
if (decide (t < (1 : Int))) = true then
Option.bind (y_plain_of v_poly) fun t1 =>
some t1
else
Option.bind (y_plain_of v_poly) fun t2 =>
Option.bind (y_slope_of v_poly) fun t3 =>
Option.bind (y_common_of v_poly t3) fun t4 =>
Option.bind (y_quotient_of t2 t4) fun t5 =>
Option.bind (t5) fun t6 =>
Option.bind (y_plain_of t6) fun t7 =>
some t7
def y_signed_rests_c1  (s : (List (List Int)) × (List Int)) : Option Bool :=
(some (!decide (s.2 = [])))
def y_signed_rests_b1  (s : (List (List Int)) × (List Int)) : Option (((List (List Int)) × (List Int))) :=
Option.bind (appC s.1 s.2) fun t =>
Option.bind (atI t (-(2 : Int))) fun t1 =>
Option.bind (atI t (-(1 : Int))) fun t2 =>
Option.bind (y_rest_of t1 t2) fun t3 =>
Option.bind (y_scaled t3 ((0 : Int) - (1 : Int))) fun t4 =>
Option.bind (y_lessened t4) fun t5 =>
some (t, t5)
def y_signed_rests (v_one : (List Int)) (v_other : (List Int)) : Option (List (List Int)) :=
Option.bind (some ([v_one] : (List (List Int)))) fun v_found =>
Option.bind (whileO (y_signed_rests_c1) (y_signed_rests_b1) (v_found, v_other)) fun r =>
some r.1
def y_chain_of (v_poly : (List Int)) : Option (List (List Int)) :=
Option.bind (y_unrepeated v_poly) fun t =>
Option.bind (y_slope_of t) fun t1 =>
Option.bind (y_lessened t1) fun t2 =>
Option.bind (y_signed_rests t t2) fun t3 =>
some t3
def y_chain (v_poly : (List Int)) : Option (Ex (List (List Int))) :=
Option.bind (y_look_at_some ((eT PyData.int) v_poly)) fun c =>
match c with
| .ex x1 => some (.ex x1)
| .ok u =>
Option.bind (y_chain_of v_poly) fun t =>
some (.ok t)
def y_times_of (v_one : (List Int)) (v_other : (List Int)) : Option Bool :=
if ((!decide ((v_one.length : Int) = (v_other.length : Int))) || (decide (v_one = []))) = true then
some false
else
Option.bind (atI v_one (-(1 : Int))) fun t =>
Option.bind (y_sign t) fun t1 =>
Option.bind (atI v_other (-(1 : Int))) fun t2 =>
Option.bind (y_sign t2) fun t3 =>
Option.bind (if (decide (t1 = t3)) = true then (Option.bind (y_lessened v_one) fun t4 => Option.bind (y_lessened v_other) fun t5 => some (decide (t4 = t5))) else some false) fun t6 =>
some t6
def y_chain_holds_b1  (s : Unit) (x : (List Int)) : Option (Ctl (Unit) (Ex Bool)) :=
Option.bind (y_look_at_poly ((eT PyData.int) x)) fun c2 =>
match c2 with
| .ex x2 => some (.rt (.ex x2))
| .ok u1 =>
some (.nx ())
def y_chain_holds (v_poly : (List Int)) (v_rows : (List (List Int))) : Option (Ex Bool) :=
Option.bind (y_look_at_some ((eT PyData.int) v_poly)) fun c =>
match c with
| .ex x1 => some (.ex x1)
| .ok u =>
Option.bind (forC (y_chain_holds_b1) v_rows ()) fun c1 =>
match c1 with
| .rt t => some t
| .nx r =>
Option.bind (y_chain_of v_poly) fun t =>
Option.bind (if (decide ((v_rows.length : Int) = (t.length : Int))) = true then (Option.bind (mapC (fun x3 => (Option.bind (y_times_of x3.1 x3.2) fun t1 => some t1)) (v_rows.zip t)) fun t2 => some (t2.all id)) else some false) fun t3 =>
some (.ok t3)
def y__law_small (b : Bag) (v_most : Int) : Option ((List Int) × Bag) :=
Option.bind (takeC b (v_most + (1 : Int))) fun t =>
Option.bind (rng1 ((1 : Int) + t.1)) fun t1 =>
Option.bind (mapBC (fun b1 x1 => (Option.bind (takeC b1 (7 : Int)) fun t2 => some ((t2.1 - (3 : Int)), t2.2))) t1 t.2) fun t3 =>
Option.bind (atI t3.1 (-(1 : Int))) fun t4 =>
Option.bind (if (decide (t4 = (0 : Int))) = true then
Option.bind (takeC t3.2 (3 : Int)) fun t5 =>
Option.bind (atI [(1 : Int), (-(1 : Int)), (2 : Int)] t5.1) fun t6 =>
Option.bind (setC t3.1 (-(1 : Int)) t6) fun t7 =>
some (t7, t5.2)
else
some (t3.1, t3.2)) fun j =>
some (j.1, j.2)
def y__law_rest_c1 (v_g : (List Int)) (s : (List Int)) : Option Bool :=
(some (decide ((v_g.length : Int) ≤ (s.length : Int))))
def y__law_rest_b1 (v_g : (List Int)) (s : (List Int)) : Option (((List Int))) :=
Option.bind (atI s (-(1 : Int))) fun t =>
Option.bind (atI v_g (-(1 : Int))) fun t1 =>
Option.bind (y__law_sgn t1) fun t2 =>
Option.bind (mulC t t2) fun t3 =>
Option.bind (some ((0 : Int) - t3)) fun v_by =>
Option.bind (repT [(0 : Int)] ((s.length : Int) - (v_g.length : Int))) fun t4 =>
Option.bind (mapC (fun x1 => (Option.bind (mulC x1 v_by) fun t5 => some t5)) v_g) fun t6 =>
Option.bind (catC t4 t6) fun t7 =>
Option.bind (mapC (fun x2 => (Option.bind (atI v_g (-(1 : Int))) fun t8 => Option.bind (mulC x2 (t8.natAbs : Int)) fun t9 => some t9)) s) fun t10 =>
Option.bind (y__law_sum (true, t10) t7) fun t11 =>
some t11
def y__law_rest (v_f : (List Int)) (v_g : (List Int)) : Option (List Int) :=
Option.bind (whileO (y__law_rest_c1 v_g) (y__law_rest_b1 v_g) v_f) fun r =>
some r
def y__law_less (v_f : (List Int)) : Option (List Int) :=
Option.bind (y__law_gcd v_f) fun t =>
Option.bind (some (max (1 : Int) t)) fun v_part =>
Option.bind (mapC (fun x1 => (Option.bind (fdivQ x1 v_part) fun t1 => some t1)) v_f) fun t2 =>
some t2
def y__law_slope (v_f : (List Int)) : Option (List Int) :=
Option.bind (mapC (fun x1 => (Option.bind (mulC x1.1 x1.2) fun t => some t)) (enumZ v_f)) fun t1 =>
Option.bind (y__law_trim (true, (cutZ t1 (some (1 : Int)) none))) fun t2 =>
some t2
def y__law_sturm_c1  (s : (List (List Int))) : Option Bool :=
(Option.bind (atI s (-(1 : Int))) fun t3 => some (!decide (t3 = [])))
def y__law_sturm_b1  (s : (List (List Int))) : Option (((List (List Int)))) :=
Option.bind (atI s (-(2 : Int))) fun t4 =>
Option.bind (atI s (-(1 : Int))) fun t5 =>
Option.bind (y__law_rest t4 t5) fun t6 =>
Option.bind (mapC (fun x1 => (some ((0 : Int) - x1))) t6) fun t7 =>
Option.bind (y__law_less t7) fun t8 =>
Option.bind (appC s t8) fun t9 =>
some t9
def y__law_sturm (v_f : (List Int)) : Option (List (List Int)) :=
Option.bind (y__law_less v_f) fun t =>
Option.bind (y__law_slope v_f) fun t1 =>
Option.bind (y__law_less t1) fun t2 =>
Option.bind (some ([t, t2] : (List (List Int)))) fun v_rows =>
Option.bind (whileO (y__law_sturm_c1) (y__law_sturm_b1) v_rows) fun r =>
some (cutZ r none (some (-(1 : Int))))
def y__law_steps (v_f : (List Int)) (v_rows : (List (List Int))) : Option Bool :=
Option.bind (atI v_rows (0 : Int)) fun t =>
Option.bind (y__law_plain t) fun t1 =>
Option.bind (sameC ((eT PyData.int) t) ((eT PyData.int) t1)) fun t2 =>
Option.bind (if (!t2) = true then some true else (Option.bind (y__law_rest v_f t) fun t3 => some (!decide (t3 = [])))) fun t4 =>
if t4 = true then
some false
else
Option.bind (if (decide ((1 : Int) < (t.length : Int))) = true then (Option.bind (y__law_slope t) fun t5 => Option.bind (okC (y_common t t5)) fun t6 => some (!decide ((t6.length : Int) = (1 : Int)))) else some false) fun t7 =>
if t7 = true then
some false
else
Option.bind (y__law_fold [(t, ((v_f.length : Int) - (1 : Int)))]) fun t8 =>
Option.bind (if (decide ((1 : Int) < (v_f.length : Int))) = true then (Option.bind (y__law_rest t8 v_f) fun t9 => some (!decide (t9 = []))) else some false) fun t10 =>
if t10 = true then
some false
else
Option.bind (y__law_sturm t) fun t11 =>
Option.bind (sameC ((eL (eT PyData.int)) v_rows) ((eL (eT PyData.int)) t11)) fun t12 =>
some t12
def y_law_k10 (b : Bag) : Option (Ctl Unit Bool) :=
Option.bind (y__law_poly b (8 : Int)) fun t =>
Option.bind (y__law_small t.2 (3 : Int)) fun t1 =>
Option.bind (y__law_mul t1.1 t1.1) fun t2 =>
Option.bind (y__law_parts t1.2 (8 : Int)) fun t3 =>
Option.bind (y__law_fold t3.1) fun t4 =>
Option.bind (y__law_mul t1.1 t1.1) fun t5 =>
Option.bind (y__law_small t3.2 (4 : Int)) fun t6 =>
Option.bind (y__law_mul t5 t6.1) fun t7 =>
Option.bind (some [t.1, t2, t4, t7]) fun v_some =>
Option.bind (takeC t6.2 (4 : Int)) fun t8 =>
Option.bind (atI v_some t8.1) fun t9 =>
Option.bind (takeC t8.2 (3 : Int)) fun t10 =>
Option.bind (if (decide (t10.1 = (0 : Int))) = true then
Option.bind (mapC (fun x1 => (Option.bind (mulC (2 : Int) x1) fun t11 => some ((0 : Int) - t11))) t9) fun t12 =>
some t12
else
some t9) fun j =>
Option.bind (okC (y_chain j)) fun t13 =>
Option.bind (if (!(isL ((eL (eT PyData.int)) t13))) = true then some true else (Option.bind (if (decide (t13 = ([] : List (List Int)))) = true then some true else (Option.bind (y__law_steps j t13) fun t14 => some (!t14))) fun t15 => some t15)) fun t16 =>
if t16 = true then
some (.rt false)
else
Option.bind (y__law_int t10.2) fun t17 =>
Option.bind (mulC t17.1 (2 : Int)) fun t18 =>
Option.bind (okC (y_chain [(t18 + (1 : Int))])) fun t19 =>
Option.bind (sameC ((eL (eT PyData.int)) t19) ((eL (eT PyData.int)) [[(1 : Int)]])) fun t20 =>
if (!t20) = true then
some (.rt false)
else
Option.bind (appC t13 []) fun t21 =>
Option.bind (okC (y_chain j)) fun t22 =>
Option.bind (sameC ((eL (eT PyData.int)) t22) ((eL (eT PyData.int)) t13)) fun t23 =>
Option.bind (if (!t23) = true then some true else (Option.bind (okC (y_chain_holds j t13)) fun t24 => Option.bind (sameC (PyData.bool t24) (PyData.bool true)) fun t25 => some (!t25))) fun t26 =>
if t26 = true then
some (.rt false)
else
some (.nx ())
def askN_k13 : Xn → Option (Str × Str)
  | .NoPoly => some ("refused", "NoPoly")
  | _ => none
def y_chain_holdsD_b1  (s : Unit) (x : PyData) : Option (Ctl (Unit) (Ex Bool)) :=
Option.bind (y_look_at_poly x) fun c2 =>
match c2 with
| .ex x2 => some (.rt (.ex x2))
| .ok u1 =>
some (.nx ())
def y_chain_holdsD (v_poly : (List Int)) (v_rows : (List PyData)) : Option (Ex Bool) :=
Option.bind (y_look_at_some ((eT PyData.int) v_poly)) fun c =>
match c with
| .ex x1 => some (.ex x1)
| .ok u =>
Option.bind (forC (y_chain_holdsD_b1) v_rows ()) fun c1 =>
match c1 with
| .rt t => some t
| .nx r =>
Option.bind (y_chain_of v_poly) fun t =>
Option.bind (if (decide ((v_rows.length : Int) = (t.length : Int))) = true then (Option.bind (mapC (fun x3 => (Option.bind (asV x3.1) fun t1 => Option.bind (y_times_of t1 x3.2) fun t2 => some t2)) (v_rows.zip t)) fun t3 => some (t3.all id)) else some false) fun t4 =>
some (.ok t4)
def y__law_no_poly (b : Bag)  : Option (PyData × Bag) :=
Option.bind (takeC b (4 : Int)) fun t =>
if (decide (t.1 = (0 : Int))) = true then
Option.bind (takeC t.2 (12 : Int)) fun t1 =>
Option.bind (atI [(eU ()), (PyData.int (7 : Int)), (PyData.bool true), (PyData.str ("" : Str)), (PyData.str ("x" : Str)), (PyData.list []), ((eL PyData.int) [(1 : Int), (1 : Int)]), ((eT PyData.int) [(0 : Int)]), ((eP PyData.int PyData.int) ((1 : Int), (0 : Int))), ((eT PyData.bool) [true]), ((eQ PyData.int eU PyData.int) ((1 : Int), (), (1 : Int))), ((eT (eT PyData.int)) [[]])] t1.1) fun t2 =>
some (t2, t1.2)
else
Option.bind (takeC t.2 (12 : Int)) fun t3 =>
Option.bind (rng1 t3.1) fun t4 =>
Option.bind (mapBC (fun b1 x1 => (Option.bind (y__law_int b1) fun t5 => some (t5.1, t5.2))) t4 t3.2) fun t6 =>
Option.bind (catC t6.1 [(1 : Int)]) fun t7 =>
if (decide (t.1 = (1 : Int))) = true then
some (((eL PyData.int) t7), t6.2)
else
if (decide (t.1 = (2 : Int))) = true then
Option.bind (catC t7 [(0 : Int)]) fun t8 =>
some (((eT PyData.int) t8), t6.2)
else
Option.bind (takeC t6.2 (t7.length : Int)) fun t9 =>
Option.bind (takeC t9.2 (4 : Int)) fun t10 =>
Option.bind (atI [(eU ()), (PyData.bool true), (PyData.str ("1" : Str)), ((eT PyData.int) [(1 : Int)])] t10.1) fun t11 =>
Option.bind (catC ((cutZ t7 none (some t9.1)).map PyData.int) [t11]) fun t12 =>
Option.bind (catC t12 ((cutZ t7 (some (t9.1 + (1 : Int))) none).map PyData.int)) fun t13 =>
some (((eT eD) t13), t10.2)
def y__law_like (v_f : (List Int)) (v_g : (List Int)) : Option Bool :=
Option.bind (if (!decide ((v_f.length : Int) = (v_g.length : Int))) = true then some true else (Option.bind (if (decide (v_f = [])) = true then some true else (Option.bind (atI v_f (-(1 : Int))) fun t => Option.bind (atI v_g (-(1 : Int))) fun t1 => Option.bind (mulC t t1) fun t2 => some (decide (t2 < (0 : Int))))) fun t3 => some t3)) fun t4 =>
if t4 = true then
some false
else
Option.bind (rng1 (v_f.length : Int)) fun t5 =>
Option.bind (filC (fun x1 => (Option.bind (atI v_f x1) fun t6 => Option.bind (atI v_g (-(1 : Int))) fun t7 => Option.bind (mulC t6 t7) fun t8 => Option.bind (atI v_g x1) fun t9 => Option.bind (atI v_f (-(1 : Int))) fun t10 => Option.bind (mulC t9 t10) fun t11 => some (!decide (t8 = t11)))) (fun x1 => (some x1)) t5) fun t12 =>
some (decide (t12 = ([] : List Int)))
def y__law_spoilt (b : Bag) (v_rows : (List (List Int))) : Option ((List (List Int)) × Bag) :=
Option.bind (mapC (fun x1 => (some x1)) v_rows) fun t =>
Option.bind (takeC b (t.length : Int)) fun t1 =>
Option.bind (atI t t1.1) fun t2 =>
Option.bind (takeC t1.2 (7 : Int)) fun t3 =>
Option.bind (if (decide (t3.1 < (2 : Int))) = true then
Option.bind (takeC t3.2 (t2.length : Int)) fun t4 =>
Option.bind (atI t2 t4.1) fun t5 =>
Option.bind (atI t2 t4.1) fun t6 =>
Option.bind (mulC (2 : Int) t6) fun t7 =>
Option.bind (y__law_int t4.2) fun t8 =>
Option.bind (takeC t8.2 (4 : Int)) fun t9 =>
Option.bind (atI [(1 : Int), (-(1 : Int)), ((0 : Int) - t7), t8.1] t9.1) fun t10 =>
Option.bind (setC t2 t4.1 (t5 + t10)) fun t11 =>
Option.bind (y__law_trim (true, t11)) fun t12 =>
Option.bind (setC t t1.1 t12) fun t13 =>
some (t13, t9.2)
else
if (decide (t3.1 = (2 : Int))) = true then
Option.bind (mapC (fun x2 => (some ((0 : Int) - x2))) t2) fun t14 =>
Option.bind (setC t t1.1 t14) fun t15 =>
some (t15, t3.2)
else
if (decide (t3.1 = (3 : Int))) = true then
Option.bind (popAtC t t1.1) fun t16 =>
some (t16, t3.2)
else
if (decide (t3.1 = (4 : Int))) = true then
Option.bind (insC t t1.1 t2) fun t17 =>
some (t17, t3.2)
else
if (decide (t3.1 = (5 : Int))) = true then
Option.bind (takeC t3.2 (t.length : Int)) fun t18 =>
Option.bind (atI t t18.1) fun t19 =>
Option.bind (setC t t1.1 t19) fun t20 =>
Option.bind (setC t20 t18.1 t2) fun t21 =>
some (t21, t18.2)
else
Option.bind (takeC t3.2 ((t.length : Int) + (1 : Int))) fun t22 =>
Option.bind (y__law_small t22.2 (3 : Int)) fun t23 =>
Option.bind (takeC t23.2 (3 : Int)) fun t24 =>
Option.bind (atI [[], [(1 : Int)], t23.1] t24.1) fun t25 =>
Option.bind (insC t t22.1 t25) fun t26 =>
some (t26, t24.2)) fun j =>
some (j.1, j.2)
def y_law_k13_b1  (s : (List (List Int)) × Bag) (x : (List Int)) : Option (((List (List Int)) × Bag)) :=
Option.bind (takeC s.2 (6 : Int)) fun t8 =>
Option.bind (some ((1 : Int) + t8.1)) fun v_by =>
Option.bind (mapC (fun x1 => (Option.bind (mulC x1 v_by) fun t9 => some t9)) x) fun t10 =>
Option.bind (appC s.1 t10) fun t11 =>
some (t11, t8.2)
def y_law_k13_b2 (v_f : (List Int)) (v_due : (List (List Int))) (v_rows : (List (List Int))) (s : Bag) (x : Int) : Option (Ctl (Bag) Bool) :=
Option.bind (y__law_spoilt s v_rows) fun t18 =>
Option.bind (some (decide ((t18.1.length : Int) = (v_due.length : Int)))) fun v_good =>
Option.bind (if v_good = true then
Option.bind (rng1 (v_due.length : Int)) fun t19 =>
Option.bind (filC (fun x2 => (Option.bind (atI t18.1 x2) fun t20 => Option.bind (atI v_due x2) fun t21 => Option.bind (y__law_like t20 t21) fun t22 => some (!t22))) (fun x2 => (some x2)) t19) fun t23 =>
Option.bind (some (decide (t23 = ([] : List Int)))) fun v_good1 =>
some v_good1
else
some v_good) fun j =>
Option.bind (okC (y_chain_holdsD v_f (t18.1.map (eT PyData.int)))) fun t24 =>
Option.bind (sameC (PyData.bool t24) (PyData.bool j)) fun t25 =>
if ((!t25) || (!decide (t18.1 = t18.1))) = true then
some (.rt false)
else
some (.nx t18.2)
def y_law_k13 (b : Bag) : Option (Ctl Unit Bool) :=
Option.bind (y__law_poly b (6 : Int)) fun t =>
Option.bind (y__law_parts t.2 (6 : Int)) fun t1 =>
Option.bind (y__law_fold t1.1) fun t2 =>
Option.bind (takeC t1.2 (2 : Int)) fun t3 =>
Option.bind (atI [t.1, t2] t3.1) fun t4 =>
Option.bind (okC (y_chain t4)) fun t5 =>
Option.bind (atI t5 (0 : Int)) fun t6 =>
Option.bind (y__law_sturm t6) fun t7 =>
Option.bind (some (([] : List (List Int)) : (List (List Int)))) fun v_rows =>
Option.bind (forO (y_law_k13_b1) t7 (v_rows, t3.2)) fun r =>
Option.bind (okC (y_chain_holdsD t4 (r.1.map (eT PyData.int)))) fun t12 =>
Option.bind (sameC (PyData.bool t12) (PyData.bool true)) fun t13 =>
Option.bind (if (!t13) = true then some true else (Option.bind (okC (y_chain_holdsD t4 ((cutZ t7 none (some (-(1 : Int)))).map (eT PyData.int)))) fun t14 => Option.bind (sameC (PyData.bool t14) (PyData.bool false)) fun t15 => some (!t15))) fun t16 =>
if t16 = true then
some (.rt false)
else
Option.bind (rng1 (4 : Int)) fun t17 =>
Option.bind (forC (y_law_k13_b2 t4 t7 r.1) t17 r.2) fun c =>
match c with
| .rt t => some (.rt t)
| .nx r1 =>
Option.bind (takeC r1 ((r.1.length : Int) + (1 : Int))) fun t26 =>
Option.bind (y__law_no_poly t26.2) fun t27 =>
Option.bind (catC ((cutZ r.1 none (some t26.1)).map (eT PyData.int)) [t27.1]) fun t28 =>
Option.bind (catC t28 ((cutZ r.1 (some t26.1) none).map (eT PyData.int))) fun t29 =>
Option.bind (y_chain_holdsD t4 t29) fun t30 =>
Option.bind (askV askN_k13 PyData.bool t30) fun t31 =>
Option.bind (eqC t31 ((eP PyData.str PyData.str) (("refused" : Str), ("NoPoly" : Str)))) fun t32 =>
if (!t32) = true then
some (.rt false)
else
some (.nx ())
def y__law_shared (v_a : (List ((List Int) × Int))) (v_b : (List ((List Int) × Int))) : Option (List ((List Int) × Int)) :=
Option.bind (mapC (fun x1 => (Option.bind (filC (fun x2 => (some (decide (x2.1 = x1.1)))) (fun x2 => (some x2.2)) v_b) fun t => Option.bind (catC [x1.2] t) fun t1 => Option.bind (t1.min?) fun t2 => some (x1.1, t2))) v_a) fun t3 =>
Option.bind (filC (fun x3 => (Option.bind (mapC (fun x4 => (some x4.1)) v_b) fun t4 => some (decide (x3.1 ∈ t4)))) (fun x3 => (some (x3.1, x3.2))) t3) fun t5 =>
some t5
def y_law_k07 (b : Bag) : Option (Ctl Unit Bool) :=
Option.bind (y__law_parts b (10 : Int)) fun t =>
Option.bind (filBC (fun b1 x1 => (Option.bind (takeC b1 (3 : Int)) fun t1 => some (((decide ((0 : Int) < t1.1)) && (decide ((x1.1.length : Int) < (5 : Int)))), t1.2))) (fun b2 x1 => (Option.bind (takeC b2 (2 : Int)) fun t2 => some ((x1.1, ((1 : Int) + t2.1)), t2.2))) t.1 t.2) fun t3 =>
Option.bind (y__law_parts t3.2 (4 : Int)) fun t4 =>
Option.bind (filC (fun x2 => (Option.bind (mapC (fun x3 => (some x3.1)) t3.1) fun t5 => some (!decide (x2.1 ∈ t5)))) (fun x2 => (some (x2.1, x2.2))) t4.1) fun t6 =>
Option.bind (catC t3.1 t6) fun t7 =>
Option.bind (filC (fun x4 => (Option.bind (filC (fun x5 => (some (!PySem.W.dataLt ((eP (eT PyData.int) PyData.int) x4) ((eP (eT PyData.int) PyData.int) x5)))) (fun x5 => (some x5)) t7) fun t8 => Option.bind (y__law_fold t8) fun t9 => some (decide ((t9.length : Int) < (13 : Int))))) (fun x4 => (some x4)) t7) fun t10 =>
Option.bind (takeC t4.2 (2 : Int)) fun t11 =>
Option.bind (mulC (3 : Int) t11.1) fun t12 =>
Option.bind (some ((1 : Int) - t12)) fun v_by =>
Option.bind (y__law_fold t.1) fun t13 =>
Option.bind (mapC (fun x6 => (Option.bind (mulC x6 v_by) fun t14 => some t14)) t13) fun t15 =>
Option.bind (y__law_fold t10) fun t16 =>
Option.bind (y__law_shared t.1 t10) fun t17 =>
Option.bind (y__law_fold t17) fun t18 =>
Option.bind (y__law_plain t18) fun t19 =>
Option.bind (okC (y_common t15 t16)) fun t20 =>
Option.bind (sameC ((eT PyData.int) t20) ((eT PyData.int) t19)) fun t21 =>
Option.bind (if (!t21) = true then some true else (Option.bind (okC (y_common t16 t15)) fun t22 => Option.bind (sameC ((eT PyData.int) t22) ((eT PyData.int) t19)) fun t23 => some (!t23))) fun t24 =>
if t24 = true then
some (.rt false)
else
Option.bind (y__law_small t11.2 (3 : Int)) fun t25 =>
Option.bind (y__law_small t25.2 (5 : Int)) fun t26 =>
Option.bind (y__law_mul t25.1 t26.1) fun t27 =>
Option.bind (y__law_small t26.2 (4 : Int)) fun t28 =>
Option.bind (y__law_mul t25.1 t28.1) fun t29 =>
Option.bind (okC (y_common t27 t29)) fun t30 =>
Option.bind (y__law_plain t30) fun t31 =>
Option.bind (sameC ((eT PyData.int) t30) ((eT PyData.int) t31)) fun t32 =>
Option.bind (if (!t32) = true then some true else (Option.bind (if (decide (t30 = [])) = true then some true else (Option.bind (okC (y_common t29 t27)) fun t33 => Option.bind (sameC ((eT PyData.int) t33) ((eT PyData.int) t30)) fun t34 => some (!t34))) fun t35 => some t35)) fun t36 =>
if t36 = true then
some (.rt false)
else
Option.bind (y__law_rest t27 t30) fun t37 =>
Option.bind (if (!decide (t37 = [])) = true then some true else (Option.bind (y__law_rest t29 t30) fun t38 => Option.bind (if (!decide (t38 = [])) = true then some true else (Option.bind (y__law_rest t30 t25.1) fun t39 => some (!decide (t39 = [])))) fun t40 => some t40)) fun t41 =>
if t41 = true then
some (.rt false)
else
Option.bind (y__law_plain t27) fun t42 =>
Option.bind (okC (y_quotient t42 t30)) fun t43 =>
Option.bind (y__law_plain t29) fun t44 =>
Option.bind (okC (y_quotient t44 t30)) fun t45 =>
Option.bind (if t43.isNone = true then some true else (Option.bind (if t45.isNone = true then some true else (Option.bind (t43) fun t46 => Option.bind (t45) fun t47 => Option.bind (okC (y_common t46 t47)) fun t48 => Option.bind (sameC ((eT PyData.int) t48) ((eT PyData.int) [(1 : Int)])) fun t49 => some (!t49))) fun t50 => some t50)) fun t51 =>
if t51 = true then
some (.rt false)
else
Option.bind (okC (y_common t27 [])) fun t52 =>
Option.bind (y__law_plain t27) fun t53 =>
Option.bind (sameC ((eT PyData.int) t52) ((eT PyData.int) t53)) fun t54 =>
Option.bind (if (!t54) = true then some true else (Option.bind (okC (y_common [] t27)) fun t55 => Option.bind (y__law_plain t27) fun t56 => Option.bind (sameC ((eT PyData.int) t55) ((eT PyData.int) t56)) fun t57 => some (!t57))) fun t58 =>
if t58 = true then
some (.rt false)
else
some (.nx ())
def y_side_at (v_poly : (List Int)) (v_number : (Int × Int)) : Option Int :=
Option.bind (y_top_at v_poly v_number) fun t =>
Option.bind (y_sign t) fun t1 =>
some t1
def y_end_side (v_poly : (List Int)) (v_side : Int) : Option Int :=
Option.bind (atI v_poly (-(1 : Int))) fun t =>
Option.bind (y_sign t) fun t1 =>
Option.bind (if (decide (v_side < (0 : Int))) = true then (Option.bind (y_degree_of v_poly) fun t2 => Option.bind (modC t2 (2 : Int)) fun t3 => Option.bind (mulC (2 : Int) t3) fun t4 => Option.bind (mulC t1 ((1 : Int) - t4)) fun t5 => some t5) else (some t1)) fun t6 =>
some t6
def y_changes (v_signs : (List Int)) : Option Int :=
Option.bind (filC (fun x1 => (some (!decide (x1 = (0 : Int))))) (fun x1 => (some x1)) v_signs) fun t =>
Option.bind (rng2 (1 : Int) (t.length : Int)) fun t1 =>
Option.bind (filC (fun x2 => (Option.bind (atI t x2) fun t2 => Option.bind (atI t (x2 - (1 : Int))) fun t3 => some (!decide (t2 = t3)))) (fun x2 => (some x2)) t1) fun t4 =>
some (t4.length : Int)
def y_changes_at (v_rows : (List (List Int))) (v_number : (Int × Int)) : Option Int :=
Option.bind (mapC (fun x1 => (Option.bind (y_side_at x1 v_number) fun t => some t)) v_rows) fun t1 =>
Option.bind (y_changes t1) fun t2 =>
some t2
def y_changes_far (v_rows : (List (List Int))) (v_side : Int) : Option Int :=
Option.bind (mapC (fun x1 => (Option.bind (y_end_side x1 v_side) fun t => some t)) v_rows) fun t1 =>
Option.bind (y_changes t1) fun t2 =>
some t2
def y_roots_in (v_rows : (List (List Int))) (v_low : (Option (Int × Int))) (v_high : (Option (Int × Int))) : Option Int :=
Option.bind (if v_low.isNone = true then (Option.bind (y_changes_far v_rows ((0 : Int) - (1 : Int))) fun t => some t) else (Option.bind (v_low) fun t1 => Option.bind (y_changes_at v_rows t1) fun t2 => some t2)) fun t3 =>
Option.bind (if v_high.isNone = true then (Option.bind (y_changes_far v_rows (1 : Int)) fun t4 => some t4) else (Option.bind (v_high) fun t5 => Option.bind (y_changes_at v_rows t5) fun t6 => some t6)) fun t7 =>
some (t3 - t7)
def y_taken_of (v_poly : (List Int)) (v_other : (List Int)) : Option Int :=
Option.bind (y_unrepeated v_poly) fun t =>
Option.bind (y_slope_of t) fun t1 =>
Option.bind (y_multiplied t1 v_other) fun t2 =>
Option.bind (y_lessened t2) fun t3 =>
Option.bind (y_signed_rests t t3) fun t4 =>
Option.bind (y_roots_in t4 none none) fun t5 =>
some t5
def y_taken (v_poly : (List Int)) (v_other : (List Int)) : Option (Ex Int) :=
Option.bind (y_look_at_some ((eT PyData.int) v_poly)) fun c =>
match c with
| .ex x1 => some (.ex x1)
| .ok u =>
Option.bind (y_look_at_poly ((eT PyData.int) v_other)) fun c1 =>
match c1 with
| .ex x2 => some (.ex x2)
| .ok u1 =>
Option.bind (y_taken_of v_poly v_other) fun t =>
some (.ok t)
def y_sides (v_poly : (List Int)) (v_other : (List Int)) : Option (Ex (Int × Int × Int)) :=
Option.bind (y_look_at_some ((eT PyData.int) v_poly)) fun c =>
match c with
| .ex x1 => some (.ex x1)
| .ok u =>
Option.bind (y_look_at_poly ((eT PyData.int) v_other)) fun c1 =>
match c1 with
| .ex x2 => some (.ex x2)
| .ok u1 =>
Option.bind (y_chain_of v_poly) fun t =>
Option.bind (y_roots_in t none none) fun t1 =>
Option.bind (y_taken_of v_poly v_other) fun t2 =>
Option.bind (y_multiplied v_other v_other) fun t3 =>
Option.bind (y_taken_of v_poly t3) fun t4 =>
Option.bind (fdivC (t4 - t2) (2 : Int)) fun t5 =>
Option.bind (fdivC (t4 + t2) (2 : Int)) fun t6 =>
some (.ok (t5, (t1 - t4), t6))
def y__law_roots_of_b1  (s : (List (Int × Int))) (x : (List Int)) : Option (((List (Int × Int)))) :=
Option.bind (atI x (0 : Int)) fun t =>
Option.bind (atI x (1 : Int)) fun t1 =>
Option.bind (some (((0 : Int) - t), t1)) fun v_q =>
Option.bind (filC (fun x1 => (Option.bind (y__law_cmp x1 v_q) fun t2 => some (decide (t2 < (0 : Int))))) (fun x1 => (some x1)) s) fun t3 =>
Option.bind (some (t3.length : Int)) fun v_at =>
if (!decide (v_q ∈ s)) = true then
Option.bind (insC s v_at v_q) fun t4 =>
some t4
else
some s
def y__law_roots_of (v_lines : (List (List Int))) : Option (List (Int × Int)) :=
Option.bind (some (([] : List (Int × Int)) : (List (Int × Int)))) fun v_found =>
Option.bind (forO (y__law_roots_of_b1) v_lines v_found) fun r =>
some r
def y__law_bald (b : Bag)  : Option ((List Int) × Bag) :=
Option.bind (takeC b (9 : Int)) fun t =>
Option.bind (some (t.1 - (4 : Int))) fun v_a =>
Option.bind (mulC v_a v_a) fun t1 =>
Option.bind (takeC t.2 (30 : Int)) fun t2 =>
Option.bind (mulC (2 : Int) v_a) fun t3 =>
some ([((t1 + (1 : Int)) + t2.1), t3, (1 : Int)], t2.2)
def y__law_lines (b : Bag) (v_most : Int) : Option ((List (List Int)) × Bag) :=
Option.bind (takeC b (v_most + (1 : Int))) fun t =>
Option.bind (rng1 t.1) fun t1 =>
Option.bind (mapBC (fun b1 x1 => (Option.bind (y__law_line b1) fun t2 => some (t2.1, t2.2))) t1 t.2) fun t3 =>
Option.bind (if (!decide (t3.1 = ([] : List (List Int)))) = true then (Option.bind (takeC t3.2 (2 : Int)) fun t4 => some ((decide (t4.1 = (0 : Int))), t4.2)) else some (false, t3.2)) fun t5 =>
Option.bind (if t5.1 = true then
Option.bind (atI t3.1 (0 : Int)) fun t6 =>
Option.bind (atI t6 (0 : Int)) fun t7 =>
Option.bind (mulC (1000 : Int) t7) fun t8 =>
Option.bind (takeC t5.2 (3 : Int)) fun t9 =>
Option.bind (atI t6 (1 : Int)) fun t10 =>
Option.bind (mulC (1000 : Int) t10) fun t11 =>
Option.bind (y__law_plain [((t8 + t9.1) - (1 : Int)), t11]) fun t12 =>
Option.bind (setC t3.1 (-(1 : Int)) t12) fun t13 =>
some (t13, t9.2)
else
some (t3.1, t5.2)) fun j =>
some (j.1, j.2)
def y__law_times_lines (v_lines : (List (List Int))) (v_by : Int) : Option (List Int) :=
Option.bind (mapC (fun x1 => (some (x1, (1 : Int)))) v_lines) fun t =>
Option.bind (y__law_fold t) fun t1 =>
Option.bind (mapC (fun x2 => (Option.bind (mulC x2 v_by) fun t2 => some t2)) t1) fun t3 =>
some t3
def y_law_k14_b1 (v_lines : (List (List Int))) (v_f : (List Int)) (s : Unit) (x : (List Int)) : Option (Ctl (Unit) Bool) :=
Option.bind (y__law_roots_of v_lines) fun t16 =>
Option.bind (mapC (fun x1 => (Option.bind (y__law_at x x1) fun t17 => Option.bind (y__law_sgn t17.1) fun t18 => some t18)) t16) fun t19 =>
Option.bind (some (((t19.count (-(1 : Int)) : Nat) : Int), ((t19.count (0 : Int) : Nat) : Int), ((t19.count (1 : Int) : Nat) : Int))) fun v_due =>
Option.bind (okC (y_sides v_f x)) fun t20 =>
Option.bind (sameC ((eQ PyData.int PyData.int PyData.int) t20) ((eQ PyData.int PyData.int PyData.int) v_due)) fun t21 =>
Option.bind (if (!t21) = true then some true else (Option.bind (okC (y_taken v_f x)) fun t22 => Option.bind (sameC (PyData.int t22) (PyData.int (v_due.2.2 - v_due.1))) fun t23 => some (!t23))) fun t24 =>
if t24 = true then
some (.rt false)
else
some (.nx ())
def y_law_k14 (b : Bag) : Option (Ctl Unit Bool) :=
Option.bind (y__law_lines b (7 : Int)) fun t =>
Option.bind (y__law_bald t.2) fun t1 =>
Option.bind (takeC t1.2 (2 : Int)) fun t2 =>
Option.bind (repL [t1.1] t2.1) fun t3 =>
Option.bind (catC t.1 t3) fun t4 =>
Option.bind (takeC t2.2 (2 : Int)) fun t5 =>
Option.bind (atI [(1 : Int), (-(3 : Int))] t5.1) fun t6 =>
Option.bind (y__law_times_lines t4 t6) fun t7 =>
Option.bind (takeC t5.2 (4 : Int)) fun t8 =>
Option.bind (y__law_lines t8.2 (3 : Int)) fun t9 =>
Option.bind (catC (cutZ t.1 none (some t8.1)) t9.1) fun t10 =>
Option.bind (takeC t9.2 (2 : Int)) fun t11 =>
Option.bind (atI [(1 : Int), (-(1 : Int))] t11.1) fun t12 =>
Option.bind (y__law_times_lines t10 t12) fun t13 =>
Option.bind (y__law_poly t11.2 (8 : Int)) fun t14 =>
Option.bind (takeC t14.2 (9 : Int)) fun t15 =>
Option.bind (forC (y_law_k14_b1 t.1 t7) [t13, t14.1, [], [(((0 : Int) - (1 : Int)) - t15.1)], t7] ()) fun c =>
match c with
| .rt t => some (.rt t)
| .nx r =>
some (.nx ())
def y_many_roots_b1  (s : Unit) (x : PyData) : Option (Ctl (Unit) (Ex Int)) :=
Option.bind (if (!(isNon x)) = true then (Option.bind (y_is_ratio x) fun t => some (!t)) else some false) fun t1 =>
if t1 = true then
some (.rt (.ex .NoRatio))
else
some (.nx ())
def y_many_roots (v_poly : (List Int)) (v_low : PyData) (v_high : PyData) : Option (Ex Int) :=
Option.bind (y_look_at_some ((eT PyData.int) v_poly)) fun c =>
match c with
| .ex x1 => some (.ex x1)
| .ok u =>
Option.bind (forC (y_many_roots_b1) [(v_low, v_high).1, (v_low, v_high).2] ()) fun c1 =>
match c1 with
| .rt t => some t
| .nx r =>
Option.bind (y_chain_of v_poly) fun t2 =>
Option.bind (if (!(isNon v_low)) = true then (Option.bind (if (!(isNon v_high)) = true then (Option.bind (asR v_low) fun t3 => Option.bind (asR v_high) fun t4 => Option.bind (mulC t3.1 t4.2) fun t5 => Option.bind (asR v_high) fun t6 => Option.bind (asR v_low) fun t7 => Option.bind (mulC t6.1 t7.2) fun t8 => some (decide (t8 ≤ t5))) else some false) fun t9 => some t9) else some false) fun t10 =>
if t10 = true then
some (.ok (0 : Int))
else
Option.bind (asOR v_low) fun t11 =>
Option.bind (asOR v_high) fun t12 =>
Option.bind (y_roots_in t2 t11 t12) fun t13 =>
some (.ok t13)
def y__law_turns (v_rows : (List (List Int))) (v_q : PyData) : Option Int :=
Option.bind (eqC v_q (PyData.str ("low" : Str))) fun t =>
Option.bind (if t = true then
Option.bind (mapC (fun x1 => (Option.bind (atI x1 (-(1 : Int))) fun t1 => Option.bind (y__law_sgn t1) fun t2 => Option.bind (modC ((x1.length : Int) + (1 : Int)) (2 : Int)) fun t3 => Option.bind (mulC (2 : Int) t3) fun t4 => Option.bind (mulC t2 ((1 : Int) - t4)) fun t5 => some t5)) v_rows) fun t6 =>
some t6
else
Option.bind (eqC v_q (PyData.str ("high" : Str))) fun t7 =>
if t7 = true then
Option.bind (mapC (fun x2 => (Option.bind (atI x2 (-(1 : Int))) fun t8 => Option.bind (y__law_sgn t8) fun t9 => some t9)) v_rows) fun t10 =>
some t10
else
Option.bind (mapC (fun x3 => (Option.bind (asR v_q) fun t11 => Option.bind (y__law_at x3 t11) fun t12 => Option.bind (y__law_sgn t12.1) fun t13 => some t13)) v_rows) fun t14 =>
some t14) fun j =>
Option.bind (filC (fun x4 => (some (!decide (x4 = (0 : Int))))) (fun x4 => (some x4)) j) fun t15 =>
Option.bind (rng2 (1 : Int) (t15.length : Int)) fun t16 =>
Option.bind (filC (fun x5 => (Option.bind (atI t15 x5) fun t17 => Option.bind (atI t15 (x5 - (1 : Int))) fun t18 => some (!decide (t17 = t18)))) (fun x5 => (some x5)) t16) fun t19 =>
some (t19.length : Int)
def y__law_count (v_f : (List Int)) (v_a : PyData) (v_b : PyData) : Option Int :=
Option.bind (y__law_sturm v_f) fun t =>
Option.bind (y__law_turns t v_a) fun t1 =>
Option.bind (y__law_turns t v_b) fun t2 =>
some (t1 - t2)
def y__law_is_int (v_x : PyData) : Option Bool :=
some ((isI v_x) && (!(isB v_x)))
def y_law_k12_b1  (s : (List (Int × Int)) × Bag) (x : Int) : Option (((List (Int × Int)) × Bag)) :=
Option.bind (y__law_ratio s.2) fun t3 =>
Option.bind (filC (fun x1 => (Option.bind (y__law_cmp x1 t3.1) fun t4 => some (decide (t4 < (0 : Int))))) (fun x1 => (some x1)) s.1) fun t5 =>
Option.bind (insC s.1 (t5.length : Int) t3.1) fun t6 =>
some (t6, t3.2)
def y_law_k12_b2 (v_f : (List Int)) (v_cuts : (List (Int × Int))) (v_told : (List Int)) (s : Unit) (x : (Int × (Int × Int))) : Option (Ctl (Unit) Bool) :=
Option.bind (atI v_cuts (x.1 + (1 : Int))) fun t15 =>
Option.bind (y__law_at v_f x.2) fun t16 =>
Option.bind (y__law_sgn t16.1) fun t17 =>
Option.bind (y__law_at v_f t15) fun t18 =>
Option.bind (y__law_sgn t18.1) fun t19 =>
Option.bind (mulC t17 t19) fun t20 =>
Option.bind (if (decide (t20 < (0 : Int))) = true then (Option.bind (atI v_told (x.1 + (1 : Int))) fun t21 => some (decide (t21 < (1 : Int)))) else some false) fun t22 =>
if t22 = true then
some (.rt false)
else
Option.bind (if (!decide (t20 = (0 : Int))) = true then (Option.bind (if (!decide (x.2 = t15)) = true then (Option.bind (atI v_told (x.1 + (1 : Int))) fun t23 => Option.bind (y__law_count v_f ((eP PyData.int PyData.int) x.2) ((eP PyData.int PyData.int) t15)) fun t24 => some (!decide (t23 = t24))) else some false) fun t25 => some t25) else some false) fun t26 =>
if t26 = true then
some (.rt false)
else
some (.nx ())
def y_law_k12 (b : Bag) : Option (Ctl Unit Bool) :=
Option.bind (y__law_poly b (7 : Int)) fun t =>
Option.bind (some (([] : List (Int × Int)) : (List (Int × Int)))) fun v_cuts =>
Option.bind (takeC t.2 (6 : Int)) fun t1 =>
Option.bind (rng1 t1.1) fun t2 =>
Option.bind (forO (y_law_k12_b1) t2 (v_cuts, t1.2)) fun r =>
Option.bind (catC [none] (r.1.map some)) fun t7 =>
Option.bind (catC t7 [none]) fun t8 =>
Option.bind (mapC (fun x2 => (Option.bind (okC (y_many_roots t.1 ((eO (eP PyData.int PyData.int)) x2.1) ((eO (eP PyData.int PyData.int)) x2.2))) fun t9 => some t9)) (t8.zip (cutZ t8 (some (1 : Int)) none))) fun t10 =>
Option.bind (okC (y_many_roots t.1 PyData.none PyData.none)) fun t11 =>
Option.bind (if (!decide ((t10.sum) = t11)) = true then some true else (Option.bind (filC (fun x3 => (Option.bind (y__law_is_int (PyData.int x3)) fun t12 => some ((!t12) || (decide (x3 < (0 : Int)))))) (fun x3 => (some x3)) t10) fun t13 => some (!decide (t13 = ([] : List Int))))) fun t14 =>
if t14 = true then
some (.rt false)
else
Option.bind (forC (y_law_k12_b2 t.1 r.1 t10) (enumZ (cutZ r.1 none (some (-(1 : Int))))) ()) fun c =>
match c with
| .rt t => some (.rt t)
| .nx r1 =>
Option.bind (y__law_count t.1 (PyData.str ("low" : Str)) (PyData.str ("high" : Str))) fun t27 =>
if (!decide ((t10.sum) = t27)) = true then
some (.rt false)
else
Option.bind (mapC (fun x4 => (Option.bind (modC x4.1 (2 : Int)) fun t28 => Option.bind (mulC (2 : Int) t28) fun t29 => Option.bind (mulC x4.2 ((1 : Int) - t29)) fun t30 => some t30)) (enumZ t.1)) fun t31 =>
Option.bind (okC (y_many_roots t31 PyData.none PyData.none)) fun t32 =>
Option.bind (if (!decide (t32 = (t10.sum))) = true then some true else (Option.bind (mapC (fun x5 => (some ((0 : Int) - x5))) t.1) fun t33 => Option.bind (okC (y_many_roots t33 PyData.none PyData.none)) fun t34 => some (!decide (t34 = (t10.sum))))) fun t35 =>
if t35 = true then
some (.rt false)
else
Option.bind (atI t.1 (0 : Int)) fun t36 =>
Option.bind (if (!decide (t36 = (0 : Int))) = true then (Option.bind (okC (y_many_roots t.1.reverse PyData.none PyData.none)) fun t37 => some (!decide (t37 = (t10.sum)))) else some false) fun t38 =>
if t38 = true then
some (.rt false)
else
some (.nx ())
def askN_k50 : Xn → Option (Str × Str)
  | .NoPoly => some ("refused", "other")
  | .NoText => some ("refused", "NoText")
  | _ => none
def y_term_text (v_one : Int) (v_power : Int) (v_first : Bool) : Option Str :=
Option.bind (some (if (decide (v_one < (0 : Int))) = true then ("-" : Str) else (if v_first = true then ("" : Str) else ("+" : Str)))) fun v_mark =>
Option.bind (if ((decide (v_power = (0 : Int))) || (!decide ((v_one.natAbs : Int) = (1 : Int)))) = true then (Option.bind (strC (v_one.natAbs : Int)) fun t => some t) else (some ("" : Str))) fun t1 =>
if (decide (v_power = (0 : Int))) = true then
Option.bind (fitS v_mark) fun t2 =>
Option.bind (fitS t1) fun t3 =>
Option.bind (joinC Str.empty [t2, t3]) fun t4 =>
some t4
else
Option.bind (if (decide (v_power = (1 : Int))) = true then (Option.bind (fitS v_mark) fun t5 => Option.bind (fitS t1) fun t6 => Option.bind (joinC Str.empty [t5, t6, ("x" : Str)]) fun t7 => some t7) else (Option.bind (fitS v_mark) fun t8 => Option.bind (fitS t1) fun t9 => Option.bind (strC v_power) fun t10 => Option.bind (joinC Str.empty [t8, t9, ("x^" : Str), t10]) fun t11 => some t11)) fun t12 =>
some t12
def y_poly_text_b1 (v_poly : (List Int)) (s : Str) (x : Int) : Option ((Str)) :=
Option.bind (atI v_poly x) fun t2 =>
if (!decide (t2 = (0 : Int))) = true then
Option.bind (atI v_poly x) fun t3 =>
Option.bind (y_term_text t3 x (decide (s = ("" : Str)))) fun t4 =>
Option.bind (catS s t4) fun t5 =>
some t5
else
some s
def y_poly_text (v_poly : (List Int)) : Option Str :=
Option.bind (some ("" : Str)) fun v_found =>
Option.bind (y_degree_of v_poly) fun t =>
Option.bind (rng3 t ((0 : Int) - (1 : Int))) fun t1 =>
Option.bind (forO (y_poly_text_b1 v_poly) t1 v_found) fun r =>
some (if (decide (r = ("" : Str))) = true then ("0" : Str) else r)
def y_whole_from (v_word : Str) : Option (Option Int) :=
Option.bind (if (Txt.startswith v_word ("-" : Str)) = true then (Option.bind (slS v_word (some (1 : Int)) none) fun t => some t) else (some v_word)) fun t1 =>
Option.bind (lenS t1) fun t2 =>
if ((!(decide ((1 : Int) ≤ t2) && decide (t2 ≤ (400 : Int)))) || ((!(Txt.isdigit t1)) || ((Txt.startswith t1 ("0" : Str)) && (!decide (v_word = ("0" : Str)))))) = true then
some none
else
Option.bind (intC v_word) fun t3 =>
some (some t3)
def y_term_from (v_part : Str) : Option (Option (Int × Int)) :=
Option.bind (partC v_part ("x" : Str)) fun t =>
Option.bind (if ((decide (t.1 ∈ [("" : Str), ("-" : Str)])) && (decide (t.2.1 = ("x" : Str)))) = true then (Option.bind (catS t.1 ("1" : Str)) fun t1 => some t1) else (some t.1)) fun t2 =>
Option.bind (y_whole_from t2) fun t3 =>
Option.bind (some (if (decide (t.2.1 = ("" : Str))) = true then (some (0 : Int)) else (some (1 : Int)))) fun v_power =>
Option.bind (if (!decide (t.2.2 = ("" : Str))) = true then
Option.bind (if (Txt.startswith t.2.2 ("^" : Str)) = true then (Option.bind (slS t.2.2 (some (1 : Int)) none) fun t4 => Option.bind (y_whole_from t4) fun t5 => some t5) else (some none)) fun t6 =>
some t6
else
some v_power) fun j =>
Option.bind (if t3.isNone = true then some true else (Option.bind (if j.isNone = true then some true else (Option.bind (j) fun t7 => some (!(decide ((0 : Int) ≤ t7) && decide (t7 ≤ (12 : Int)))))) fun t8 => some t8)) fun t9 =>
if t9 = true then
some none
else
Option.bind (t3) fun t10 =>
Option.bind (j) fun t11 =>
some (some (t10, t11))
def y_poly_from_b1  (s : (List Int)) (x : Str) : Option (Ctl ((List Int)) (Option (List Int))) :=
if (!decide (x = ("" : Str))) = true then
Option.bind (y_term_from x) fun t3 =>
if t3.isNone = true then
some (.rt none)
else
Option.bind (t3) fun t4 =>
Option.bind (t3) fun t5 =>
Option.bind (setC s t5.2 t4.1) fun t6 =>
some (.nx t6)
else
some (.nx s)
def y_poly_from (v_word : Str) : Option (Option (List Int)) :=
Option.bind (repL [(0 : Int)] ((12 : Int) + (1 : Int))) fun t =>
Option.bind (replC v_word "-" "+-") fun t1 =>
Option.bind (splitC t1 ("+" : Str)) fun t2 =>
Option.bind (forC (y_poly_from_b1) t2 t) fun c =>
match c with
| .rt t => some t
| .nx r =>
Option.bind (y_trimmed r) fun t7 =>
Option.bind (y_poly_text t7) fun t8 =>
some (if (decide (t8 = v_word)) = true then (some t7) else none)
def y_write_poly (v_poly : (List Int)) : Option (Ex Str) :=
Option.bind (y_look_at_poly ((eT PyData.int) v_poly)) fun c =>
match c with
| .ex x1 => some (.ex x1)
| .ok u =>
Option.bind (y_poly_text v_poly) fun t =>
some (.ok t)
def y_read_poly (v_text : Str) : Option (Ex (List Int)) :=
Option.bind (y_poly_from v_text) fun t =>
if t.isNone = true then
some (.ex .NoText)
else
Option.bind (t) fun t1 =>
some (.ok t1)
def y__law_poly_text_b1 (v_f : (List Int)) (s : Str) (x : Int) : Option ((Str)) :=
Option.bind (atI v_f x) fun t1 =>
if (!decide (t1 = (0 : Int))) = true then
Option.bind (atI v_f x) fun t2 =>
Option.bind (some (if (decide (t2 < (0 : Int))) = true then ("-" : Str) else ("+" : Str))) fun v_mark =>
Option.bind (atI v_f x) fun t3 =>
Option.bind (strC (t3.natAbs : Int)) fun t4 =>
Option.bind (if ((decide ((0 : Int) < x)) && (decide (t4 = ("1" : Str)))) = true then
Option.bind (some ("" : Str)) fun v_many =>
some v_many
else
some t4) fun j =>
Option.bind (catS s v_mark) fun t5 =>
Option.bind (catS t5 j) fun t6 =>
Option.bind (strC x) fun t7 =>
Option.bind (catS ("x^" : Str) t7) fun t8 =>
Option.bind (atI [("" : Str), ("x" : Str), t8] (min x (2 : Int))) fun t9 =>
Option.bind (catS t6 t9) fun t10 =>
some t10
else
some s
def y__law_poly_text (v_f : (List Int)) : Option Str :=
Option.bind (some ("" : Str)) fun v_found =>
Option.bind (rng3 ((v_f.length : Int) - (1 : Int)) (-(1 : Int))) fun t =>
Option.bind (forO (y__law_poly_text_b1 v_f) t v_found) fun r =>
if (decide (r = ("" : Str))) = true then
some ("0" : Str)
else
Option.bind (ixS r (0 : Int)) fun t11 =>
Option.bind (if (decide (t11 = ("+" : Str))) = true then (Option.bind (slS r (some (1 : Int)) none) fun t12 => some t12) else (some r)) fun t13 =>
some t13
def y__law_others (v_f : (List Int)) (v_text : Str) : Option (List Str) :=
Option.bind (catS ("+" : Str) v_text) fun t =>
Option.bind (catS v_text ("+0" : Str)) fun t1 =>
Option.bind (catS ("0" : Str) v_text) fun t2 =>
Option.bind (catS v_text (" " : Str)) fun t3 =>
Option.bind (catS (" " : Str) v_text) fun t4 =>
Option.bind (catS v_text ("x" : Str)) fun t5 =>
Option.bind (catS ("1" : Str) v_text) fun t6 =>
Option.bind (catS t6 ("-" : Str)) fun t7 =>
Option.bind (some [t, t1, t2, t3, t4, t5, t7, ("" : Str), ("-" : Str), ("x^" : Str)]) fun v_found =>
Option.bind (catC v_found [("x^1" : Str), ("1x" : Str), ("-1x" : Str), ("0x" : Str), ("-0" : Str), ("00" : Str), ("x^0" : Str), ("x^13" : Str), ("1+x" : Str), ("x+x" : Str)]) fun t8 =>
Option.bind (catC t8 [("x^2+x^2" : Str), ("2*x" : Str), ("X" : Str), ("x-" : Str), ("--1" : Str)]) fun t9 =>
Option.bind (filC (fun x1 => (some (!decide (x1 = v_text)))) (fun x1 => (some x1)) t9) fun t10 =>
some t10
def y_law_k50_b1  (s : Unit) (x : Str) : Option (Ctl (Unit) Bool) :=
Option.bind (y_read_poly x) fun t15 =>
Option.bind (askV askN_k50 (eT PyData.int) t15) fun t16 =>
Option.bind (eqC t16 ((eP PyData.str PyData.str) (("refused" : Str), ("NoText" : Str)))) fun t17 =>
Option.bind (if (!t17) = true then (Option.bind (asPS t16) fun t18 => Option.bind (if (!decide (t18.1 = ("told" : Str))) = true then some true else (Option.bind (asPS t16) fun t19 => Option.bind (asV t19.2) fun t20 => Option.bind (y__law_poly_text t20) fun t21 => some (!decide (t21 = x)))) fun t22 => some t22) else some false) fun t23 =>
if t23 = true then
some (.rt false)
else
some (.nx ())
def y_law_k50_b2  (s : Unit) (x : Str) : Option (Ctl (Unit) Bool) :=
Option.bind (y_read_poly x) fun t25 =>
Option.bind (askV askN_k50 (eT PyData.int) t25) fun t26 =>
Option.bind (eqC t26 ((eP PyData.str PyData.str) (("refused" : Str), ("NoText" : Str)))) fun t27 =>
if (!t27) = true then
some (.rt false)
else
some (.nx ())
def y_law_k50 (b : Bag) : Option (Ctl Unit Bool) :=
Option.bind (takeC b (14 : Int)) fun t =>
Option.bind (rng1 t.1) fun t1 =>
Option.bind (mapBC (fun b1 x1 => (Option.bind (y__law_int b1) fun t2 => Option.bind (y__law_wide t2.2) fun t3 => Option.bind (takeC t3.2 (5 : Int)) fun t4 => Option.bind (atI [(0 : Int), (1 : Int), (-(1 : Int)), t2.1, t3.1] t4.1) fun t5 => some (t5, t4.2))) t1 t.2) fun t6 =>
Option.bind (y__law_trim (true, t6.1)) fun t7 =>
Option.bind (y__law_poly_text t7) fun t8 =>
Option.bind (okC (y_write_poly t7)) fun t9 =>
Option.bind (sameC (PyData.str t9) (PyData.str t8)) fun t10 =>
Option.bind (if (!t10) = true then some true else (Option.bind (okC (y_read_poly t8)) fun t11 => Option.bind (sameC ((eT PyData.int) t11) ((eT PyData.int) t7)) fun t12 => some (!t12))) fun t13 =>
if t13 = true then
some (.rt false)
else
Option.bind (y__law_others t7 t8) fun t14 =>
Option.bind (forC (y_law_k50_b1) t14 ()) fun c =>
match c with
| .rt t => some (.rt t)
| .nx r =>
Option.bind (some [("x^1" : Str), ("1x" : Str), ("0x" : Str), ("-0" : Str), ("x^0" : Str), ("x^13" : Str), ("1+x" : Str), ("x+x" : Str), ("" : Str), ("x^2+x^2" : Str), ("+x" : Str), ("x x" : Str), ("x^-1" : Str)]) fun v_some =>
Option.bind (catC v_some [("x^02" : Str)]) fun t24 =>
Option.bind (forC (y_law_k50_b2) t24 ()) fun c1 =>
match c1 with
| .rt t => some (.rt t)
| .nx r1 =>
some (.nx ())
def askN_k51 : Xn → Option (Str × Str)
  | .NoText => some ("refused", "NoText")
  | _ => none
def y__law_whole_of (v_word : Str) : Option (Option Int) :=
Option.bind (slS v_word none (some (1 : Int))) fun t =>
Option.bind (if (decide (t = ("-" : Str))) = true then (Option.bind (slS v_word (some (1 : Int)) none) fun t1 => some t1) else (some v_word)) fun t2 =>
Option.bind (if (decide (t2 = ("" : Str))) = true then some true else (Option.bind (filC (fun x1 => (Option.bind (inSgn x1 ("0123456789" : Str)) fun t3 => some (!t3))) (fun x1 => (some x1)) (sgsS t2)) fun t4 => Option.bind (eqC ((eL PyData.str) t4) ((eL PyData.str) ([] : List Str))) fun t5 => Option.bind (if (!t5) = true then some true else (Option.bind (lenS t2) fun t6 => some (decide ((60 : Int) < t6)))) fun t7 => some t7)) fun t8 =>
if t8 = true then
some none
else
Option.bind (intC v_word) fun t9 =>
some (some t9)
def y__law_one_part (v_part : Str) : Option (Option (Int × Int)) :=
Option.bind (some (Txt.find v_part ("x" : Str))) fun v_at =>
if (decide (v_at < (0 : Int))) = true then
Option.bind (y__law_whole_of v_part) fun t =>
Option.bind (if t.isNone = true then (some none) else (Option.bind (t) fun t1 => some (some (t1, (0 : Int))))) fun t2 =>
some t2
else
Option.bind (some (some (1 : Int))) fun v_power =>
Option.bind (slS v_part (some (v_at + (1 : Int))) none) fun t3 =>
Option.bind (if (!decide (t3 = ("" : Str))) = true then
Option.bind (ixS v_part (v_at + (1 : Int))) fun t4 =>
Option.bind (if (decide (t4 = ("^" : Str))) = true then (Option.bind (slS v_part (some (v_at + (2 : Int))) none) fun t5 => Option.bind (y__law_whole_of t5) fun t6 => some t6) else (some none)) fun t7 =>
some t7
else
some v_power) fun j =>
Option.bind (slS v_part none (some v_at)) fun t8 =>
Option.bind (if (decide (t8 ∈ [("" : Str), ("-" : Str)])) = true then (Option.bind (catS t8 ("1" : Str)) fun t9 => Option.bind (y__law_whole_of t9) fun t10 => some t10) else (Option.bind (y__law_whole_of t8) fun t11 => some t11)) fun t12 =>
Option.bind (if t12.isNone = true then some true else (Option.bind (if j.isNone = true then some true else (Option.bind (j) fun t13 => Option.bind (if (decide (t13 < (1 : Int))) = true then some true else (Option.bind (j) fun t14 => some (decide ((12 : Int) < t14)))) fun t15 => some t15)) fun t16 => some t16)) fun t17 =>
Option.bind (if t17 = true then (some none) else (Option.bind (t12) fun t18 => Option.bind (j) fun t19 => some (some (t18, t19)))) fun t20 =>
some t20
def y__law_poly_in_b1  (s : (List Int)) (x : Str) : Option (Ctl ((List Int)) (Option (List Int))) :=
if (!decide (x = ("" : Str))) = true then
Option.bind (y__law_one_part x) fun t3 =>
if t3.isNone = true then
some (.rt none)
else
Option.bind (t3) fun t4 =>
Option.bind (t3) fun t5 =>
Option.bind (setC s t5.2 t4.1) fun t6 =>
some (.nx t6)
else
some (.nx s)
def y__law_poly_in (v_text : Str) : Option (Option (List Int)) :=
Option.bind (repL [(0 : Int)] (13 : Int)) fun t =>
Option.bind (replC v_text "-" "+-") fun t1 =>
Option.bind (splitC t1 ("+" : Str)) fun t2 =>
Option.bind (forC (y__law_poly_in_b1) t2 t) fun c =>
match c with
| .rt t => some t
| .nx r =>
Option.bind (y__law_trim (true, r)) fun t7 =>
Option.bind (y__law_poly_text t7) fun t8 =>
some (if (decide (t8 = v_text)) = true then (some t7) else none)
def y__law_spoiltS (b : Bag) (v_text : Str) : Option (Str × Bag) :=
Option.bind (lenS v_text) fun t =>
Option.bind (takeC b (t + (1 : Int))) fun t1 =>
Option.bind (takeC t1.2 (17 : Int)) fun t2 =>
Option.bind (ixS ("0123456789x^+- ./" : Str) t2.1) fun t3 =>
Option.bind (takeC t2.2 (4 : Int)) fun t4 =>
if (decide (t4.1 = (0 : Int))) = true then
Option.bind (slS v_text none (some t1.1)) fun t5 =>
Option.bind (catS t5 t3) fun t6 =>
Option.bind (slS v_text (some t1.1) none) fun t7 =>
Option.bind (catS t6 t7) fun t8 =>
some (t8, t4.2)
else
if (decide (t4.1 = (1 : Int))) = true then
Option.bind (slS v_text none (some t1.1)) fun t9 =>
Option.bind (slS v_text (some (t1.1 + (1 : Int))) none) fun t10 =>
Option.bind (catS t9 t10) fun t11 =>
some (t11, t4.2)
else
if (decide (t4.1 = (2 : Int))) = true then
Option.bind (slS v_text none (some t1.1)) fun t12 =>
Option.bind (catS t12 t3) fun t13 =>
Option.bind (slS v_text (some (t1.1 + (1 : Int))) none) fun t14 =>
Option.bind (catS t13 t14) fun t15 =>
some (t15, t4.2)
else
Option.bind (lenS v_text) fun t16 =>
Option.bind (takeC t4.2 (t16 + (1 : Int))) fun t17 =>
Option.bind (slS v_text (some (min t1.1 t17.1)) none) fun t18 =>
Option.bind (slS v_text none (some (min t1.1 t17.1))) fun t19 =>
Option.bind (catS t18 t19) fun t20 =>
some (t20, t17.2)
def y_law_k51_b1 (v_text : Str) (s : Bag) (x : Int) : Option (Ctl (Bag) Bool) :=
Option.bind (y__law_spoiltS s v_text) fun t10 =>
Option.bind (takeC t10.2 (2 : Int)) fun t11 =>
Option.bind (if (decide (t11.1 = (0 : Int))) = true then
Option.bind (y__law_spoiltS t11.2 t10.1) fun t12 =>
some (t12.1, t12.2)
else
some (t10.1, t11.2)) fun j =>
Option.bind (y__law_poly_in j.1) fun t13 =>
Option.bind (y_read_poly j.1) fun t14 =>
Option.bind (askV askN_k51 (eT PyData.int) t14) fun t15 =>
Option.bind (if t13.isNone = true then (Option.bind (eqC t15 ((eP PyData.str PyData.str) (("refused" : Str), ("NoText" : Str)))) fun t16 => some (!t16)) else some false) fun t17 =>
if t17 = true then
some (.rt false)
else
Option.bind (if (!t13.isNone) = true then (Option.bind (sameC t15 ((eP PyData.str (eO (eT PyData.int))) (("told" : Str), t13))) fun t18 => some (!t18)) else some false) fun t19 =>
if t19 = true then
some (.rt false)
else
some (.nx j.2)
def y_law_k51 (b : Bag) : Option (Ctl Unit Bool) :=
Option.bind (takeC b (14 : Int)) fun t =>
Option.bind (rng1 t.1) fun t1 =>
Option.bind (mapBC (fun b1 x1 => (Option.bind (y__law_int b1) fun t2 => Option.bind (y__law_wide t2.2) fun t3 => Option.bind (takeC t3.2 (5 : Int)) fun t4 => Option.bind (atI [(0 : Int), (1 : Int), (-(1 : Int)), t2.1, t3.1] t4.1) fun t5 => some (t5, t4.2))) t1 t.2) fun t6 =>
Option.bind (y__law_trim (true, t6.1)) fun t7 =>
Option.bind (y__law_poly_text t7) fun t8 =>
Option.bind (rng1 (10 : Int)) fun t9 =>
Option.bind (forC (y_law_k51_b1 t8) t9 t6.2) fun c =>
match c with
| .rt t => some (.rt t)
| .nx r =>
some (.nx ())
end
end AM

set_option Elab.async false
set_option linter.all false
set_option maxRecDepth 100000
set_option maxHeartbeats 1000000
namespace AM
open PySem PySem.Spec PyProof.Rows L2
def ev : List Int → Int → Int
  | [], _ => 0
  | a :: r, x => a + x * ev r x
theorem ev_app (x : Int) : ∀ f g : List Int, ev (f ++ g) x = ev f x + x ^ f.length * ev g x
  | [], g => by simp [ev]
  | a :: f, g => by
    simp only [List.cons_append, ev, ev_app x f g, List.length_cons, Int.pow_succ]
    grind
theorem ev_zeros (x : Int) : ∀ n : Nat, ev (List.replicate n 0) x = 0
  | 0 => rfl
  | n + 1 => by simp [List.replicate_succ, ev, ev_zeros x n]
theorem ev_trim (x : Int) : ∀ f : List Int, ev (trimZ f) x = ev f x
  | [] => rfl
  | a :: r => by
    have ih := ev_trim x r
    simp only [trimZ]
    cases z : trimZ r with
    | nil =>
      rw [z] at ih
      have ih : ev r x = 0 := ih.symm
      by_cases h : a = 0
      · subst h; simp [ev, ih]
      · simp [h, ev, ih]
    | cons b t =>
      rw [z] at ih
      show a + x * ev (b :: t) x = a + x * ev r x
      rw [ih]
theorem ev_map (c x : Int) : ∀ f : List Int, ev (f.map (c * ·)) x = c * ev f x
  | [] => by simp [ev]
  | a :: r => by simp only [List.map_cons, ev, ev_map c x r]; grind
theorem trimd_tail {a : Int} {r : List Int} (h : trimd (a :: r)) : trimd r := by
  rcases h with h | ⟨q, x, hx, e⟩
  · cases h
  · cases q with
    | nil => simp at e; exact .inl e.2
    | cons b q => simp at e; exact .inr ⟨q, x, hx, e.2⟩
theorem ev_nz : ∀ {f : List Int}, trimd f → f ≠ [] → ∃ x0 : Int, 0 < x0 ∧ ∀ x, x0 ≤ x → ev f x ≠ 0
  | [], _, h => absurd rfl h
  | [a], h, _ => by
    refine ⟨1, by decide, fun x _ => ?_⟩
    rcases h with h | ⟨q, y, hy, e⟩
    · cases h
    · cases q with
      | nil => simp at e; subst e; simpa [ev] using hy
      | cons b q => simp at e
  | a :: b :: r, h, _ => by
    obtain ⟨x0, h0, h1⟩ := ev_nz (trimd_tail h) (List.cons_ne_nil b r)
    refine ⟨max x0 ((a.natAbs : Int) + 1), by omega, fun x hx => ?_⟩
    have hne := h1 x (by omega)
    show a + x * ev (b :: r) x ≠ 0
    intro z
    have hx2 : (a.natAbs : Int) + 1 ≤ x := by omega
    have : a.natAbs = x.natAbs * (ev (b :: r) x).natAbs := by
      rw [← Int.natAbs_mul, show a = -(x * ev (b :: r) x) by omega, Int.natAbs_neg]
    have h3 : 1 ≤ (ev (b :: r) x).natAbs := by omega
    have h4 : x.natAbs * 1 ≤ x.natAbs * (ev (b :: r) x).natAbs := Nat.mul_le_mul_left _ h3
    omega
theorem ev_inj' : ∀ {f g : List Int}, trimd f → trimd g → ∀ X : Int, (∀ x, X ≤ x → ev f x = ev g x) → f = g
  | [], [], _, _, _, _ => rfl
  | [], b :: s, _, hg, X, h => by
    obtain ⟨x0, _, h1⟩ := ev_nz hg (List.cons_ne_nil b s)
    exact absurd (h (max X x0) (by omega)).symm (h1 _ (by omega))
  | a :: r, [], hf, _, X, h => by
    obtain ⟨x0, _, h1⟩ := ev_nz hf (List.cons_ne_nil a r)
    exact absurd (h (max X x0) (by omega)) (h1 _ (by omega))
  | a :: r, b :: s, hf, hg, X, h => by
    have key : ∀ x, max X ((a - b).natAbs + 1) ≤ x → a = b := fun x hx => by
      have e : a + x * ev r x = b + x * ev s x := h x (by omega)
      have e2 : a - b = x * (ev s x - ev r x) := by rw [Int.mul_sub]; omega
      by_cases hz : ev s x - ev r x = 0
      · rw [hz, Int.mul_zero] at e2; omega
      · have : (a - b).natAbs = x.natAbs * (ev s x - ev r x).natAbs := by rw [e2, Int.natAbs_mul]
        have h3 : 1 ≤ (ev s x - ev r x).natAbs := by omega
        have h4 : x.natAbs * 1 ≤ x.natAbs * (ev s x - ev r x).natAbs := Nat.mul_le_mul_left _ h3
        omega
    have e := key _ (Int.le_refl _)
    subst e
    rw [ev_inj' (trimd_tail hf) (trimd_tail hg) (max X 1) fun x hx => ?_]
    have e : a + x * ev r x = a + x * ev s x := h x (by omega)
    have e2 : x * ev r x = x * ev s x := by omega
    exact Int.eq_of_mul_eq_mul_left (by omega) e2
theorem ev_inj {f g : List Int} (hf : trimd f) (hg : trimd g) (h : ∀ x, ev f x = ev g x) : f = g := ev_inj' hf hg 0 fun x _ => h x
theorem trimZ_eq {f g : List Int} (h : ∀ x, ev f x = ev g x) : trimZ f = trimZ g := ev_inj (trimd_trimZ f) (trimd_trimZ g) fun x => by rw [ev_trim, ev_trim, h]
theorem ev_zip (x : Int) : ∀ f g : List Int, f.length = g.length → ev (List.zipWith (· + ·) f g) x = ev f x + ev g x
  | [], [], _ => rfl
  | a :: f, b :: g, h => by
    have ih := ev_zip x f g (by simpa using h)
    simp only [List.zipWith_cons_cons, ev, ih]
    grind
theorem ev_pad (x : Int) (f : List Int) (m : Nat) : ev (padZ f m) x = ev f x := by
  unfold padZ
  rw [ev_app, ev_zeros, Int.mul_zero, Int.add_zero]
theorem ev_add (x : Int) (f g : List Int) : ev (addZ f g) x = ev f x + ev g x := by
  unfold addZ
  rw [ev_trim, ev_zip, ev_pad, ev_pad]
  unfold padZ
  rw [List.length_append, List.length_append, List.length_replicate, List.length_replicate]
  omega
theorem ev_addAt (x : Int) : ∀ (acc : List Int) (i : Nat) (y : Int), i < acc.length → ev (addAt acc i y) x = ev acc x + y * x ^ i
  | a :: r, 0, y, _ => by simp [addAt, ev]; grind
  | a :: r, i + 1, y, h => by
    have ih := ev_addAt x r i y (by simpa using h)
    unfold addAt at ih ⊢
    simp only [List.getD_cons_succ, List.set_cons_succ, ev, Int.pow_succ, ih]
    grind
theorem ev_inn (x a : Int) : ∀ (g acc : List Int) (i : Nat), i + g.length ≤ acc.length → ev (inn acc i a g) x = ev acc x + a * x ^ i * ev g x
  | [], acc, i, _ => by simp [inn, ev]
  | b :: g, acc, i, h => by
    rw [List.length_cons] at h
    rw [inn, ev_inn x a g _ _ (by rw [addAt_len]; omega), ev_addAt x _ _ _ (by omega)]
    simp only [ev, Int.pow_succ]
    grind
theorem ev_out (x : Int) (g : List Int) : ∀ (f acc : List Int) (i : Nat), i + f.length + g.length ≤ acc.length → ev (out acc i g f) x = ev acc x + x ^ i * ev f x * ev g x
  | [], acc, i, _ => by simp [out, ev]
  | a :: f, acc, i, h => by
    rw [List.length_cons] at h
    rw [out, ev_out x g f _ _ (by rw [inn_len]; omega), ev_inn x a g _ _ (by omega)]
    simp only [ev, Int.pow_succ]
    grind
theorem ev_mul (x : Int) (f g : List Int) : ev (mulZ f g) x = ev f x * ev g x := by
  unfold mulZ
  rw [ev_trim, ev_out x g f _ _ (by rw [List.length_replicate]; omega), ev_zeros]
  simp
theorem trimd_mul (f g : List Int) : trimd (mulZ f g) := trimd_trimZ _
theorem trimd_add (f g : List Int) : trimd (addZ f g) := trimd_trimZ _
theorem mulZ_comm (f g : List Int) : mulZ f g = mulZ g f := ev_inj (trimd_mul _ _) (trimd_mul _ _) fun x => by rw [ev_mul, ev_mul, Int.mul_comm]
theorem mulZ_assoc (f g h : List Int) : mulZ (mulZ f g) h = mulZ f (mulZ g h) := ev_inj (trimd_mul _ _) (trimd_mul _ _) fun x => by rw [ev_mul, ev_mul, ev_mul, ev_mul, Int.mul_assoc]
theorem mulZ_one {f : List Int} (h : trimd f) : mulZ f [1] = f := ev_inj (trimd_mul _ _) h fun x => by rw [ev_mul]; simp [ev]
def addL : List Int → List Int → List Int
  | [], g => g
  | f, [] => f
  | a :: f, b :: g => (a + b) :: addL f g
def mulK : List Int → List Int → List Int
  | [], _ => []
  | a :: f, g => addL (g.map (a * ·)) (0 :: mulK f g)
theorem ev_addL (x : Int) : ∀ f g : List Int, ev (addL f g) x = ev f x + ev g x
  | [], g => by simp [addL, ev]
  | a :: f, [] => by simp [addL, ev]
  | a :: f, b :: g => by simp only [addL, ev, ev_addL x f g]; grind
theorem ev_mulK (x : Int) : ∀ f g : List Int, ev (mulK f g) x = ev f x * ev g x
  | [], g => by simp [mulK, ev]
  | a :: f, g => by
    rw [mulK, ev_addL, ev_map]
    simp only [ev, ev_mulK x f g]
    grind
theorem mulZ_L (f g : List Int) : mulZ f g = trimZ (mulK f g) := ev_inj (trimd_mul _ _) (trimd_trimZ _) fun x => by rw [ev_mul, ev_trim, ev_mulK]
theorem addL_long : ∀ (f h : List Int) (y : Int), f.length ≤ h.length → ∃ k, addL f (h ++ [y]) = k ++ [y] ∧ k.length = h.length
  | [], h, y, _ => ⟨h, by simp [addL], rfl⟩
  | a :: f, [], y, hl => by simp at hl
  | a :: f, b :: h, y, hl => by
    obtain ⟨k, e, l⟩ := addL_long f h y (by simpa using hl)
    exact ⟨(a + b) :: k, by simp [addL, e], by simp [l]⟩
theorem mulK_last (g : List Int) (y : Int) : ∀ (f : List Int) (x : Int), ∃ k, mulK (f ++ [x]) (g ++ [y]) = k ++ [x * y] ∧ k.length = f.length + g.length
  | [], x => by
    refine ⟨addL (g.map (x * ·)) [] ++ [], ?_, ?_⟩
    · show addL ((g ++ [y]).map (x * ·)) [0] = _
      rw [List.map_append]
      have : ∀ l : List Int, addL (l ++ [x * y]) [0] = addL l [] ++ [] ++ [x * y] := by
        intro l
        cases l with
        | nil => simp [addL]
        | cons a l => cases l <;> simp [addL]
      exact this _
    · have : ∀ l : List Int, (addL l []).length = l.length := by intro l; cases l <;> rfl
      simp [this]
  | a :: f, x => by
    obtain ⟨k, e, l⟩ := mulK_last g y f x
    obtain ⟨k2, e2, l2⟩ := addL_long ((g ++ [y]).map (a * ·)) (0 :: k) (x * y) (by simp [l])
    refine ⟨k2, ?_, ?_⟩
    · show addL _ (0 :: mulK (f ++ [x]) (g ++ [y])) = _
      rw [e]; exact e2
    · rw [l2]; simp [l]; omega
theorem mulZ_last {f g : List Int} {x y : Int} (hx : x ≠ 0) (hy : y ≠ 0) : ∃ k, mulZ (f ++ [x]) (g ++ [y]) = k ++ [x * y] ∧ k.length = f.length + g.length := by
  obtain ⟨k, e, l⟩ := mulK_last g y f x
  refine ⟨k, ?_, l⟩
  rw [mulZ_L, e, trimZ_snoc (Int.mul_ne_zero hx hy)]
theorem snoc_of {f : List Int} (h : trimd f) (hne : f ≠ []) : ∃ r x, x ≠ 0 ∧ f = r ++ [x] := h.resolve_left hne
theorem mulZ_len {f g : List Int} (hf : trimd f) (hg : trimd g) (f0 : f ≠ []) (g0 : g ≠ []) : (mulZ f g).length = f.length + g.length - 1 := by
  obtain ⟨r, x, hx, rfl⟩ := snoc_of hf f0
  obtain ⟨s, y, hy, rfl⟩ := snoc_of hg g0
  obtain ⟨k, e, l⟩ := mulZ_last (f := r) (g := s) hx hy
  rw [e]; simp [l]; omega
theorem mulZ_ne {f g : List Int} (hf : trimd f) (hg : trimd g) (f0 : f ≠ []) (g0 : g ≠ []) : mulZ f g ≠ [] := by
  obtain ⟨r, x, hx, rfl⟩ := snoc_of hf f0
  obtain ⟨s, y, hy, rfl⟩ := snoc_of hg g0
  obtain ⟨k, e, l⟩ := mulZ_last (f := r) (g := s) hx hy
  rw [e]; simp
theorem mulZ_cancel {f g h : List Int} (hf : trimd f) (f0 : f ≠ []) (hg : trimd g) (hh : trimd h) (e : mulZ f g = mulZ f h) : g = h := by
  obtain ⟨x0, _, h1⟩ := ev_nz hf f0
  refine ev_inj' hg hh x0 fun x hx => ?_
  have e2 : ev f x * ev g x = ev f x * ev h x := by rw [← ev_mul, ← ev_mul, e]
  exact Int.eq_of_mul_eq_mul_left (h1 x hx) e2
end AM

set_option Elab.async false
set_option linter.all false
set_option maxRecDepth 100000
set_option maxHeartbeats 1000000
set_option exponentiation.threshold 100
namespace AM
open PySem PySem.Spec PyProof.Rows L2
def Bd (n : Nat) (f : List Int) : Prop := ∀ a ∈ f, a.natAbs < 2 ^ n
theorem Bd.mono {n m : Nat} {f : List Int} (h : Bd n f) (hm : n ≤ m) : Bd m f := fun a ha => Nat.lt_of_lt_of_le (h a ha) (Nat.pow_le_pow_right (by decide) hm)
theorem Bd.nil (n : Nat) : Bd n [] := fun a h => by cases h
theorem Bd.app {n : Nat} {f g : List Int} (h : Bd n f) (h2 : Bd n g) : Bd n (f ++ g) := fun a ha => (List.mem_append.mp ha).elim (h a) (h2 a)
theorem Bd.trim {n : Nat} {f : List Int} (h : Bd n f) : Bd n (trimZ f) := fun a ha => h a (trimZ_mem ha)
theorem Bd.zeros (n m : Nat) : Bd n (List.replicate m 0) := fun a ha => by rw [(List.mem_replicate.mp ha).2]; exact Nat.pow_pos (by decide)
theorem abs_mul_lt {a b : Int} {m n : Nat} (ha : a.natAbs < 2 ^ m) (hb : b.natAbs < 2 ^ n) : (a * b).natAbs < 2 ^ (m + n) := by
  rw [Int.natAbs_mul, Nat.pow_add]
  exact Nat.mul_lt_mul'' ha hb
theorem abs_add_lt {a b : Int} {n : Nat} (ha : a.natAbs < 2 ^ n) (hb : b.natAbs < 2 ^ n) : (a + b).natAbs < 2 ^ (n + 1) := by
  rw [Nat.pow_succ]; omega
theorem abs_lt_mono {a : Int} {m n : Nat} (ha : a.natAbs < 2 ^ m) (h : m ≤ n) : a.natAbs < 2 ^ n := Nat.lt_of_lt_of_le ha (Nat.pow_le_pow_right (by decide) h)
theorem Bd.scale {n m : Nat} {f : List Int} {c : Int} (h : Bd n f) (hc : c.natAbs < 2 ^ m) : Bd (m + n) (f.map (c * ·)) := fun a ha => by
  obtain ⟨b, hb, rfl⟩ := List.mem_map.mp ha
  exact abs_mul_lt hc (h b hb)
theorem Bd.zip {n : Nat} : ∀ {f g : List Int}, Bd n f → Bd n g → Bd (n + 1) (List.zipWith (· + ·) f g)
  | [], _, _, _ => fun a h => by simp at h
  | _ :: _, [], _, _ => fun a h => by simp at h
  | a :: f, b :: g, h1, h2 => fun c hc => by
    rw [List.zipWith_cons_cons] at hc
    rcases List.mem_cons.mp hc with rfl | hc
    · exact abs_add_lt (h1 a List.mem_cons_self) (h2 b List.mem_cons_self)
    · exact Bd.zip (fun a ha => h1 a (List.mem_cons_of_mem _ ha)) (fun a ha => h2 a (List.mem_cons_of_mem _ ha)) c hc
theorem Bd.pad {n m : Nat} {f : List Int} (h : Bd n f) : Bd n (padZ f m) := h.app (Bd.zeros _ _)
theorem Bd.add {n : Nat} {f g : List Int} (h : Bd n f) (h2 : Bd n g) : Bd (n + 1) (addZ f g) := (Bd.zip h.pad h2.pad).trim
theorem mulC_eq {a b : Int} (m n : Nat) (ha : a.natAbs < 2 ^ m) (hb : b.natAbs < 2 ^ n) (h : m + n ≤ 134217728) : mulC a b = some (a * b) := if_pos (mulB m n ha hb h)
theorem mulC_l {a b : Int} (ha : a.natAbs < 2 ^ 64) : mulC a b = some (a * b) := if_pos (AM.mulL ha)
theorem mulC_r {a b : Int} (ha : b.natAbs < 2 ^ 64) : mulC a b = some (a * b) := if_pos (AM.mulR ha)
theorem fdivC_eq {a b : Int} (n : Nat) (h0 : b ≠ 0) (hb : b.natAbs < 2 ^ n) (hn : n ≤ 9000) : fdivC a b = some (a.fdiv b) := if_pos ⟨h0, abs_lt_mono hb hn⟩
theorem fdivQ_eq {a b : Int} (h0 : b ≠ 0) : fdivQ a b = some (a.fdiv b) := if_pos h0
theorem modC_eq {a b : Int} (h0 : b ≠ 0) : modC a b = some (a.fmod b) := if_pos h0
theorem mapO_eq {α β : Type} {f : α → Option β} {g : α → β} : ∀ {xs : List α}, (∀ x ∈ xs, f x = some (g x)) → mapO f xs = some (xs.map g)
  | [], _ => rfl
  | x :: xs, h => by
    show (f x).bind _ = _
    rw [h x List.mem_cons_self]
    show (mapO f xs).bind _ = _
    rw [mapO_eq fun y hy => h y (List.mem_cons_of_mem _ hy)]
    rfl
theorem mapC_eq {α β : Type} {f : α → Option β} {g : α → β} {xs : List α} (hz : xs.length < 100000) (h : ∀ x ∈ xs, f x = some (g x)) : mapC f xs = some (xs.map g) := by
  unfold mapC
  rw [if_pos hz, mapO_eq h]
theorem gcd_loop : ∀ (n : Nat) (a b : Nat), b ≤ n → WhileS y_greatest_c1 y_greatest_b1 ((a : Int), (b : Int)) ((Nat.gcd a b : Int), 0)
  | n, a, 0, _ => by rw [Nat.gcd_zero_right]; exact .stop rfl
  | 0, a, b + 1, h => by omega
  | n + 1, a, b + 1, h => by
    have e : modC (a : Int) ((b + 1 : Nat) : Int) = some (((a % (b + 1) : Nat) : Int)) := by rw [modC_eq (by omega), fmod_nat]
    have r := gcd_loop n (b + 1) (a % (b + 1)) (by have := Nat.mod_lt a (show 0 < b + 1 by omega); omega)
    rw [Nat.gcd_comm a, Nat.gcd_rec, Nat.gcd_comm]
    refine .step (s' := (((b + 1 : Nat) : Int), ((a % (b + 1) : Nat) : Int))) ?_ ?_ r
    · show some (!decide (((b + 1 : Nat) : Int) = 0)) = some true
      rw [decide_eq_false (by omega)]; rfl
    · show (modC (a : Int) ((b + 1 : Nat) : Int)).bind _ = _
      rw [e]; rfl
theorem greatest_eq (a b : Int) : y_greatest a b = some (Int.gcd a b : Int) := by
  unfold y_greatest
  simp only [Option.bind_some]
  rw [whileO_iff.mpr (gcd_loop _ a.natAbs b.natAbs (Nat.le_refl _))]
  rfl
theorem trim_loop (l : List Int) : ∀ m : Nat, m ≤ l.length → trimZ (l.take m) = trimZ l → ∃ k : Nat, WhileS (y_trimmed_c1 l) (y_trimmed_b1 l) (m : Int) (k : Int) ∧ l.take k = trimZ l
  | 0, _, h => ⟨0, .stop rfl, by rw [← h]; rfl⟩
  | m + 1, hm, h => by
    have hx : l[m]? = some l[m] := List.getElem?_eq_getElem (by omega)
    have e : atI l (((m + 1 : Nat) : Int) - 1) = some l[m] := by
      rw [show ((m + 1 : Nat) : Int) - 1 = (m : Int) by omega]; unfold atI; rw [ixN_nat (by omega)]; exact hx
    have ec : y_trimmed_c1 l ((m + 1 : Nat) : Int) = some (decide (l[m] = 0)) := by
      unfold y_trimmed_c1
      rw [decide_eq_true (show (0 : Int) < ((m + 1 : Nat) : Int) by omega), if_pos rfl, e]; rfl
    by_cases hz : l[m] = 0
    · obtain ⟨k, hw, hk⟩ := trim_loop l m (by omega) (by rw [← h, take_snoc hx, hz, trimZ_snoc0])
      refine ⟨k, .step (s' := (m : Int)) (by rw [ec, decide_eq_true hz]) ?_ hw, hk⟩
      show some (((m + 1 : Nat) : Int) - 1) = some (m : Int)
      rw [show ((m + 1 : Nat) : Int) - 1 = (m : Int) by omega]
    · refine ⟨m + 1, .stop (by rw [ec, decide_eq_false hz]), ?_⟩
      rw [← h, take_snoc hx, trimZ_snoc hz]
theorem cutZ_take (l : List Int) (m : Nat) : cutZ l none (some (m : Int)) = l.take m := by
  unfold cutZ
  rw [HT.sIx_none, HT.sIx_nat, List.drop_zero, Nat.sub_zero, List.take_eq_take_iff]
  omega
theorem trimmed_eq (l : List Int) : y_trimmed l = some (trimZ l) := by
  obtain ⟨k, hw, hk⟩ := trim_loop l l.length (Nat.le_refl _) (by rw [List.take_length])
  unfold y_trimmed
  simp only [Option.bind_some]
  rw [whileO_iff.mpr hw]
  show some (cutZ l none (some (k : Int))) = _
  rw [cutZ_take, hk]
theorem repl_zero (m : Int) : repl [(0 : Int)] m = List.replicate m.toNat 0 := by
  unfold repl
  generalize m.toNat = n
  induction n with
  | zero => rfl
  | succ n ih => rw [List.replicate_succ, List.flatten_cons, ih]; rfl
theorem repT_zero {m : Int} (h1 : -(2 ^ 63) ≤ m) (h2 : m ≤ 1000) : repT [(0 : Int)] m = some (List.replicate m.toNat 0) := by
  unfold repT
  rw [if_pos ⟨rfl, h1, h2, by decide⟩, repl_zero]
theorem added_eq {f g : List Int} (hf : f.length ≤ 500) (hg : g.length ≤ 500) : y_added f g = some (addZ f g) := by
  unfold y_added
  simp only [Option.bind_some]
  rw [repT_zero (by omega) (by omega)]
  simp only [Option.bind_some]
  have e1 : (max (f.length : Int) (g.length : Int) - (f.length : Int)).toNat = max f.length g.length - f.length := by omega
  have e2 : (max (f.length : Int) (g.length : Int) - (g.length : Int)).toNat = max f.length g.length - g.length := by omega
  rw [catC, if_pos (by rw [List.length_replicate]; omega), e1]
  simp only [Option.bind_some]
  rw [repT_zero (by omega) (by omega), e2]
  simp only [Option.bind_some]
  rw [catC, if_pos (by rw [List.length_replicate]; omega)]
  simp only [Option.bind_some]
  rw [mapC_eq (f := fun x : Int × Int => some (x.1 + x.2)) (g := fun x => x.1 + x.2) (by rw [List.length_zip, List.length_append, List.length_append, List.length_replicate, List.length_replicate]; omega) (fun _ _ => rfl)]
  simp only [Option.bind_some]
  rw [trimmed_eq]
  show some (trimZ _) = some (addZ f g)
  unfold addZ padZ List.zip
  rw [List.map_zipWith]
theorem scaled_eq {f : List Int} {c : Int} (m n : Nat) (hc : c.natAbs < 2 ^ m) (hf : Bd n f) (hmn : m + n ≤ 134217728) (hl : f.length < 100000) : y_scaled f c = some (trimZ (f.map (c * ·))) := by
  unfold y_scaled
  rw [mapC_eq (g := (c * ·)) hl (fun x hx => by rw [mulC_eq m n hc (hf x hx) hmn]; rfl)]
  simp only [Option.bind_some]
  rw [trimmed_eq]; rfl
def scaleZ (c : Int) (f : List Int) : List Int := trimZ (f.map (c * ·))
theorem ev_scale (c x : Int) (f : List Int) : ev (scaleZ c f) x = c * ev f x := by unfold scaleZ; rw [ev_trim, ev_map]
theorem trimd_scale (c : Int) (f : List Int) : trimd (scaleZ c f) := trimd_trimZ _
theorem Bd.sc {n m : Nat} {f : List Int} {c : Int} (h : Bd n f) (hc : c.natAbs < 2 ^ m) : Bd (m + n) (scaleZ c f) := (h.scale hc).trim
theorem scale_len (c : Int) (f : List Int) : (scaleZ c f).length ≤ f.length := Nat.le_trans (trimZ_len _) (by rw [List.length_map]; exact Nat.le_refl _)
theorem scale_snoc {c x : Int} (hc : c ≠ 0) (hx : x ≠ 0) (f : List Int) : scaleZ c (f ++ [x]) = f.map (c * ·) ++ [c * x] := by
  unfold scaleZ
  rw [List.map_append]
  exact trimZ_snoc (Int.mul_ne_zero hc hx) _
def subZ (f g : List Int) : List Int := addZ f (scaleZ (-1) g)
theorem ev_sub (x : Int) (f g : List Int) : ev (subZ f g) x = ev f x - ev g x := by unfold subZ; rw [ev_add, ev_scale]; omega
theorem trimd_sub (f g : List Int) : trimd (subZ f g) := trimd_trimZ _
theorem addZ_len (f g : List Int) : (addZ f g).length ≤ max f.length g.length := by
  unfold addZ
  refine Nat.le_trans (trimZ_len _) ?_
  rw [List.length_zipWith]
  unfold padZ
  rw [List.length_append, List.length_append, List.length_replicate, List.length_replicate]
  omega
theorem subZ_len (f g : List Int) : (subZ f g).length ≤ max f.length g.length := by
  have h1 := addZ_len f (scaleZ (-1) g)
  have h2 := scale_len (-1) g
  unfold subZ; omega
theorem Bd.neg {n : Nat} {f : List Int} (h : Bd n f) : Bd n (scaleZ (-1) f) := fun a ha => by
  obtain ⟨b, hb, rfl⟩ := List.mem_map.mp (trimZ_mem ha)
  have := h b hb
  show ((-1) * b).natAbs < _
  rw [show (-1) * b = -b by omega, Int.natAbs_neg]; exact this
theorem Bd.sub {n : Nat} {f g : List Int} (h : Bd n f) (h2 : Bd n g) : Bd (n + 1) (subZ f g) := h.add h2.neg
theorem lessened_by_eq {f g : List Int} (n : Nat) (hf : f.length ≤ 500) (hg : g.length ≤ 500) (hb : Bd n g) (hn : n ≤ 100000000) : y_lessened_by f g = some (subZ f g) := by
  unfold y_lessened_by
  rw [scaled_eq 1 n (by decide) hb (by omega) (by omega)]
  simp only [Option.bind_some]
  rw [added_eq hf (Nat.le_trans (trimZ_len _) (by rw [List.length_map]; exact hg))]
  rfl
end AM

set_option Elab.async false
set_option linter.all false
set_option maxRecDepth 100000
set_option maxHeartbeats 1000000
set_option exponentiation.threshold 100
namespace AM
open PySem PySem.Spec PyProof.Rows L2
theorem bstep {α β : Type} {m : Option α} {f : α → Option β} {r : β} {x : α} (e : m = some x) (h : f x = some r) : m.bind f = some r := by rw [e]; exact h
theorem ite_t {α : Type} {k : Bool} {a b : Option α} {r : α} (hk : k = true) (h : a = some r) : (if k = true then a else b) = some r := by rw [if_pos hk]; exact h
theorem ite_f {α : Type} {k : Bool} {a b : Option α} {r : α} (hk : k = false) (h : b = some r) : (if k = true then a else b) = some r := by rw [if_neg (by rw [hk]; decide)]; exact h
theorem take_spec {n : Int} {b : Bag} (ok : BagOk n b) (m : Int) (hn : n + 1 ≤ 1000000000 := by omega) (h0 : 0 < m := by omega) (h1 : m < 2 ^ 63 := by omega) : ∃ v, takeC b m = some v ∧ (0 ≤ v.1 ∧ v.1 < m) ∧ BagOk (n + 1) v.2 := by
  refine ⟨take b m, ?_, take_rng b h0, take_ok ok m⟩
  unfold takeC
  have h1 := ok.z1
  rw [if_pos ⟨ok.y0, ok.y1, ok.z0, by omega, h0, by assumption⟩]
theorem int_spec {n : Int} {b : Bag} (ok : BagOk n b) (hn : n + 2 ≤ 1000000000 := by omega) : ∃ v, y__law_int b = some v ∧ (-1000000 ≤ v.1 ∧ v.1 ≤ 1000000) ∧ BagOk (n + 2) v.2 := by
  obtain ⟨t, e, ht, okt⟩ := take_spec ok 8
  by_cases h5 : t.1 < 5
  · obtain ⟨u, e2, hu, oku⟩ := take_spec okt 13
    exact ⟨_, bstep e (ite_t (decide_eq_true h5) (bstep e2 rfl)), by constructor <;> (simp only []; omega), oku.mono (by omega)⟩
  · by_cases h7 : t.1 < 7
    · obtain ⟨u, e2, hu, oku⟩ := take_spec okt 201
      exact ⟨_, bstep e (ite_f (decide_eq_false h5) (ite_t (decide_eq_true h7) (bstep e2 rfl))), by constructor <;> (simp only []; omega), oku.mono (by omega)⟩
    · obtain ⟨u, e2, hu, oku⟩ := take_spec okt 2000001
      exact ⟨_, bstep e (ite_f (decide_eq_false h5) (ite_f (decide_eq_false h7) (bstep (mulC_l (by decide)) (bstep e2 rfl)))), by constructor <;> (simp only []; omega), oku.mono (by omega)⟩
theorem mapBO_spec {α β : Type} {f : Bag → α → Option (β × Bag)} {post : β → Prop} {c : Int} (hc : 0 ≤ c) : ∀ (xs : List α), (∀ n b x, x ∈ xs → BagOk n b → n + c ≤ 1000000000 → ∃ v, f b x = some v ∧ post v.1 ∧ BagOk (n + c) v.2) → ∀ {n : Int} {b : Bag}, BagOk n b → n + c * xs.length ≤ 1000000000 →
    ∃ v, mapBO f xs b = some v ∧ v.1.length = xs.length ∧ (∀ y ∈ v.1, post y) ∧ BagOk (n + c * xs.length) v.2
  | [], _, n, b, ok, hn => ⟨([], b), rfl, rfl, (fun y h => by cases h), ok.mono (by simp)⟩
  | x :: xs, hf, n, b, ok, hn => by
    have e0 : c * ((x :: xs).length : Int) = c * (xs.length : Int) + c := by rw [List.length_cons]; grind
    have e1 : 0 ≤ c * (xs.length : Int) := Int.mul_nonneg hc (by omega)
    obtain ⟨v, e, hv, okv⟩ := hf n b x List.mem_cons_self ok (by omega)
    obtain ⟨w, e2, hl, hw, okw⟩ := mapBO_spec hc xs (fun n b y hy => hf n b y (List.mem_cons_of_mem _ hy)) okv (by omega)
    refine ⟨(v.1 :: w.1, w.2), bstep e (bstep e2 rfl), by simp [hl], fun y hy => ?_, okw.mono (by omega)⟩
    rcases List.mem_cons.mp hy with rfl | hy
    · exact hv
    · exact hw y hy
theorem mapBC_spec {α β : Type} {f : Bag → α → Option (β × Bag)} {post : β → Prop} (c : Int) {xs : List α} (hf : ∀ n b x, x ∈ xs → BagOk n b → n + c ≤ 1000000000 → ∃ v, f b x = some v ∧ post v.1 ∧ BagOk (n + c) v.2) {n : Int} {b : Bag} (ok : BagOk n b) (hn : n + c * xs.length ≤ 1000000000) (hz : xs.length < 100000) (hc : 0 ≤ c := by decide) :
    ∃ v, mapBC f xs b = some v ∧ v.1.length = xs.length ∧ (∀ y ∈ v.1, post y) ∧ BagOk (n + c * xs.length) v.2 := by
  unfold mapBC
  rw [if_pos hz]
  exact mapBO_spec hc xs hf ok hn
theorem rng1_eq {j : Int} (h : -(2 ^ 62) ≤ j) (h2 : j < 2 ^ 62) : rng1 j = some (rngZ 0 j.toNat) := if_pos ⟨h, h2⟩
theorem rngZ_len (lo : Int) (n : Nat) : (rngZ lo n).length = n := by simp [rngZ]
theorem ixN_m1 {n : Nat} (h : 0 < n) : ixN n (-1) = some (n - 1) := by
  unfold ixN
  rw [if_neg (by decide), if_pos (by omega), show (-1 + (n : Int)).toNat = n - 1 by omega]
theorem atI_last {α : Type} (r : List α) (x : α) : atI (r ++ [x]) (-1) = some x := by
  unfold atI
  rw [ixN_m1 (by simp)]
  simp
theorem atI_nat' {α : Type} {xs : List α} {i : Nat} (h : i < xs.length) : atI xs (i : Int) = some xs[i] := by
  unfold atI
  rw [ixN_nat h]
  exact List.getElem?_eq_getElem h
theorem atI_pos {α : Type} {xs : List α} {i : Int} (h : 0 ≤ i) (h2 : i < xs.length) : ∃ x, atI xs i = some x ∧ x ∈ xs ∧ xs[i.toNat]? = some x := by
  refine ⟨xs[i.toNat]'(by omega), ?_, List.getElem_mem _, List.getElem?_eq_getElem _⟩
  have := atI_nat' (xs := xs) (i := i.toNat) (by omega)
  rwa [show ((i.toNat : Nat) : Int) = i by omega] at this
theorem setC_nat {α : Type} {xs : List α} {i : Nat} (x : α) (h : i < xs.length) : setC xs (i : Int) x = some (xs.set i x) := by
  unfold setC; rw [ixN_nat h]; rfl
theorem setC_pos {α : Type} {xs : List α} {i : Int} (x : α) (h : 0 ≤ i) (h2 : i < xs.length) : setC xs i x = some (xs.set i.toNat x) := by
  have := setC_nat (xs := xs) (i := i.toNat) x (by omega)
  rwa [show ((i.toNat : Nat) : Int) = i by omega] at this
theorem setC_last {α : Type} (r : List α) (x y : α) : setC (r ++ [x]) (-1) y = some (r ++ [y]) := by
  unfold setC
  rw [ixN_m1 (by simp)]
  simp
theorem snoc_list {α : Type} {l : List α} (h : l ≠ []) : ∃ r x, l = r ++ [x] := ⟨l.dropLast, l.getLast h, (List.dropLast_concat_getLast h).symm⟩
theorem trimd_snoc {r : List Int} {x : Int} (h : x ≠ 0) : trimd (r ++ [x]) := .inr ⟨r, x, h, rfl⟩
theorem poly_spec {n : Int} {b : Bag} (ok : BagOk n b) (most : Int) (h0 : 0 ≤ most) (h1 : most ≤ 100) (hn : n + 1000 ≤ 1000000000 := by omega) :
    ∃ v, y__law_poly b most = some v ∧ (trimd v.1 ∧ v.1 ≠ [] ∧ (v.1.length : Int) ≤ most + 1 ∧ Bd 20 v.1) ∧ BagOk (n + 1000) v.2 := by
  obtain ⟨t, e, ht, okt⟩ := take_spec ok (most + 1)
  have e1 : rng1 (1 + t.1) = some (rngZ 0 (1 + t.1).toNat) := rng1_eq (by omega) (by omega)
  have l1 := rngZ_len 0 (1 + t.1).toNat
  obtain ⟨row, e2, hl, hrow, okr⟩ := mapBC_spec (f := fun b1 (x1 : Int) => (Option.bind (y__law_int b1) fun t2 => some (t2.1, t2.2))) (post := fun z => -1000000 ≤ z ∧ z ≤ 1000000) 2 (xs := rngZ 0 (1 + t.1).toNat) (fun n b x _ ok hn => by
    obtain ⟨v, e, hv, okv⟩ := int_spec ok
    exact ⟨v, bstep e rfl, hv, okv⟩) okt (by rw [l1]; omega) (by rw [l1]; omega)
  rw [l1] at hl okr
  obtain ⟨u, e3, hu, oku⟩ := take_spec okr 3
  -- some of it made nought
  have hj : ∃ j, (if (decide (u.1 = (0 : Int))) = true then
      Option.bind (mapBC (fun b2 x2 => (Option.bind (takeC b2 (2 : Int)) fun t5 => Option.bind (mulC x2 t5.1) fun t6 => some (t6, t5.2))) row.1 u.2) fun t7 => some (t7.1, t7.2)
      else some (row.1, u.2)) = some j ∧ j.1.length = row.1.length ∧ (∀ z ∈ j.1, -1000000 ≤ z ∧ z ≤ 1000000) ∧ BagOk (n + 500) j.2 := by
    by_cases hz : u.1 = 0
    · obtain ⟨w, e4, hlw, hw, okw⟩ := mapBC_spec (f := fun b2 (x2 : Int) => (Option.bind (takeC b2 (2 : Int)) fun t5 => Option.bind (mulC x2 t5.1) fun t6 => some (t6, t5.2))) (post := fun z => -1000000 ≤ z ∧ z ≤ 1000000) 1 (xs := row.1) (fun n b x hx ok hn => by
        obtain ⟨v, e, hv, okv⟩ := take_spec ok 2
        have hx := hrow x hx
        refine ⟨(x * v.1, v.2), bstep e (bstep (mulC_r (by omega)) rfl), ?_, okv⟩
        have : v.1 = 0 ∨ v.1 = 1 := by omega
        rcases this with z | z <;> simp only [z] <;> omega) oku (by rw [hl]; omega) (by rw [hl]; omega)
      refine ⟨w, ite_t (decide_eq_true hz) (bstep e4 rfl), hlw, hw, okw.mono (by rw [hl]; omega)⟩
    · exact ⟨(row.1, u.2), ite_f (decide_eq_false hz) rfl, rfl, hrow, oku.mono (by omega)⟩
  obtain ⟨j, e4, hlj, hj, okj⟩ := hj
  have jne : j.1 ≠ [] := fun z => by rw [z] at hlj; simp at hlj; omega
  obtain ⟨r, x, ej⟩ := snoc_list jne
  have hx := hj x (by rw [ej]; simp)
  have e5 : atI j.1 (-1) = some x := by rw [ej]; exact atI_last r x
  have sm20 : ∀ z : Int, -1000000 ≤ z ∧ z ≤ 1000000 → z.natAbs < 2 ^ 20 := fun z hz => by omega
  have hlr : r.length + 1 = j.1.length := by rw [ej]; simp
  by_cases hz : x = 0
  · obtain ⟨w, e6, hw, okw⟩ := take_spec okj 5
    refine ⟨(r ++ [1 + w.1], w.2), bstep e (bstep e1 (bstep e2 (bstep e3 (bstep e4 (bstep e5 (bstep (ite_t (decide_eq_true hz) (bstep e6 (bstep (show setC j.1 (-1) (1 + w.1) = some (r ++ [1 + w.1]) by rw [ej]; exact setC_last r x _) rfl))) rfl)))))), ⟨trimd_snoc (by omega), by simp, ?_, ?_⟩, okw.mono (by omega)⟩
    · simp; omega
    · intro a ha
      rcases List.mem_append.mp ha with ha | ha
      · exact sm20 a (hj a (by rw [ej]; simp [ha]))
      · rw [List.mem_singleton] at ha; subst ha; omega
  · refine ⟨(j.1, j.2), bstep e (bstep e1 (bstep e2 (bstep e3 (bstep e4 (bstep e5 (bstep (ite_f (decide_eq_false hz) rfl) rfl)))))), ⟨by show trimd j.1; rw [ej]; exact trimd_snoc hz, jne, ?_, fun a ha => sm20 a (hj a ha)⟩, okj.mono (by omega)⟩
    show (j.1.length : Int) ≤ _
    omega
end AM

set_option Elab.async false
set_option linter.all false
set_option maxRecDepth 100000
set_option maxHeartbeats 1000000
set_option exponentiation.threshold 100
namespace AM
open PySem PySem.Spec PyProof.Rows L2
theorem content_loop : ∀ (f : List Int) (g : Nat), forO y_content_of_b1 f (g : Int) = some (gcdL g f : Int)
  | [], g => rfl
  | a :: f, g => by
    have e : y_content_of_b1 (g : Int) a = some ((Nat.gcd g a.natAbs : Nat) : Int) := by
      unfold y_content_of_b1
      rw [greatest_eq]; rfl
    exact bstep e (content_loop f _)
theorem content_eq (f : List Int) : y_content_of f = some (gcdL 0 f : Int) := bstep rfl (bstep (content_loop f 0) rfl)
theorem gcdL_dvd : ∀ (f : List Int) (g : Nat), gcdL g f ∣ g ∧ ∀ a ∈ f, gcdL g f ∣ a.natAbs
  | [], g => ⟨Nat.dvd_refl _, fun a h => by cases h⟩
  | b :: f, g => by
    obtain ⟨h1, h2⟩ := gcdL_dvd f (Nat.gcd g b.natAbs)
    refine ⟨Nat.dvd_trans h1 (Nat.gcd_dvd_left _ _), fun a ha => ?_⟩
    rcases List.mem_cons.mp ha with rfl | ha
    · exact Nat.dvd_trans h1 (Nat.gcd_dvd_right _ _)
    · exact h2 a ha
theorem dvd_gcdL {d : Nat} : ∀ (f : List Int) (g : Nat), d ∣ g → (∀ a ∈ f, d ∣ a.natAbs) → d ∣ gcdL g f
  | [], g, h, _ => h
  | b :: f, g, h, h2 => dvd_gcdL f _ (Nat.dvd_gcd h (h2 b List.mem_cons_self)) fun a ha => h2 a (List.mem_cons_of_mem _ ha)
def cont (f : List Int) : Nat := gcdL 0 f
theorem cont_dvd {f : List Int} {a : Int} (h : a ∈ f) : (cont f : Int) ∣ a := Int.ofNat_dvd_left.mpr ((gcdL_dvd f 0).2 a h)
theorem dvd_cont {f : List Int} {d : Int} (h : ∀ a ∈ f, d ∣ a) : d ∣ (cont f : Int) := Int.ofNat_dvd_right.mpr (dvd_gcdL f 0 (Nat.dvd_zero _) fun a ha => Int.natAbs_dvd_natAbs.mpr (h a ha))
theorem cont_zero {f : List Int} (h : cont f = 0) : ∀ a ∈ f, a = 0 := fun a ha => by
  have := (gcdL_dvd f 0).2 a ha
  rw [show gcdL 0 f = 0 from h] at this
  have := Nat.eq_zero_of_zero_dvd this
  omega
theorem cont_pos {f : List Int} (hf : trimd f) (f0 : f ≠ []) : 0 < cont f := by
  obtain ⟨r, x, hx, rfl⟩ := snoc_of hf f0
  rcases Nat.eq_zero_or_pos (cont (r ++ [x])) with h | h
  · exact absurd (cont_zero h x (by simp)) hx
  · exact h
theorem cont_le {f : List Int} {n : Nat} (hf : trimd f) (f0 : f ≠ []) (hb : Bd n f) : cont f < 2 ^ n := by
  obtain ⟨r, x, hx, rfl⟩ := snoc_of hf f0
  have h1 := (gcdL_dvd (r ++ [x]) 0).2 x (by simp)
  have h2 := Nat.le_of_dvd (by omega) h1
  exact Nat.lt_of_le_of_lt h2 (hb x (by simp))
def sgl (f : List Int) : Int := if (f.getLast?.getD 0) < 0 then -1 else 1
def plainZ (f : List Int) : List Int := f.map (·.fdiv (sgl f * cont f))
theorem sgl_snoc (r : List Int) (x : Int) : sgl (r ++ [x]) = if x < 0 then -1 else 1 := by unfold sgl; simp
theorem fdiv_neg' {a c : Int} (h : c ∣ a) : a.fdiv (-c) = -(a.fdiv c) := by
  obtain ⟨k, rfl⟩ := h
  by_cases hc : c = 0
  · subst hc; simp
  · rw [show c * k = (-c) * (-k) by grind, Int.mul_fdiv_cancel_left _ (by omega), show (-c) * (-k) = c * k by grind, Int.mul_fdiv_cancel_left _ hc]
theorem fdiv_mul {a c : Int} (h : c ∣ a) : a.fdiv c * c = a := by
  obtain ⟨k, rfl⟩ := h
  by_cases hc : c = 0
  · subst hc; simp
  · rw [Int.mul_fdiv_cancel_left _ hc, Int.mul_comm]
theorem lessened_eq {f : List Int} (n : Nat) (hf : trimd f) (hb : Bd n f) (hn : n ≤ 50000000) (hl : f.length < 100000) : y_lessened f = some (if f = [] then [] else f.map (·.fdiv (cont f))) := by
  unfold y_lessened
  refine bstep (content_eq f) ?_
  by_cases f0 : f = []
  · subst f0; rfl
  · have cp := cont_pos hf f0
    rw [if_neg f0]
    refine bstep (ite_f (decide_eq_false (by show ¬ ((cont f : Nat) : Int) = 0; omega)) (bstep (mapC_eq (g := (·.fdiv (cont f))) hl fun x hx => bstep (fdivQ_eq (show ((cont f : Nat) : Int) ≠ 0 by omega)) rfl) rfl)) rfl
theorem map_fdiv_trimd {f : List Int} {c : Int} (hf : trimd f) (hc : ∀ a ∈ f, c ∣ a) : trimd (f.map (·.fdiv c)) := by
  rcases hf with rfl | ⟨r, x, hx, rfl⟩
  · exact .inl rfl
  · rw [List.map_append]
    refine trimd_snoc fun z => hx ?_
    have := fdiv_mul (hc x (by simp))
    have z : x.fdiv c = 0 := z
    rw [z, Int.zero_mul] at this
    exact this.symm
theorem Bd.fdiv {n : Nat} {f : List Int} {c : Int} (hb : Bd n f) (hc : ∀ a ∈ f, c ∣ a) : Bd n (f.map (·.fdiv c)) := fun a ha => by
  obtain ⟨b, hb', rfl⟩ := List.mem_map.mp ha
  have h1 := fdiv_mul (hc b hb')
  have h2 := hb b hb'
  by_cases hc0 : c = 0
  · subst hc0; show (b.fdiv 0).natAbs < _; rw [Int.fdiv_zero]; exact Nat.pow_pos (by decide)
  · have : (b.fdiv c).natAbs ≤ b.natAbs := by
      have e : b.natAbs = (b.fdiv c).natAbs * c.natAbs := by rw [← Int.natAbs_mul, h1]
      rw [e]
      exact Nat.le_mul_of_pos_right _ (by omega)
    show (b.fdiv c).natAbs < _
    omega
theorem plain_of_eq {f : List Int} (n : Nat) (hf : trimd f) (hb : Bd n f) (hn : n ≤ 50000000) (hl : f.length < 100000) : y_plain_of f = some (plainZ f) := by
  unfold y_plain_of
  refine bstep (lessened_eq n hf hb hn hl) ?_
  by_cases f0 : f = []
  · subst f0; rfl
  · rw [if_neg f0]
    obtain ⟨r, x, hx, rfl⟩ := snoc_of hf f0
    have cp := cont_pos hf f0
    have dv : ∀ a ∈ r ++ [x], (cont (r ++ [x]) : Int) ∣ a := fun a ha => cont_dvd ha
    generalize hc : ((cont (r ++ [x]) : Nat) : Int) = c at dv
    have c0 : 0 < c := by omega
    have em : (r ++ [x]).map (·.fdiv c) = r.map (·.fdiv c) ++ [x.fdiv c] := by rw [List.map_append]; rfl
    have hxc := fdiv_mul (dv x (by simp))
    have hxn : x.fdiv c ≠ 0 := fun z => hx (by rw [z, Int.zero_mul] at hxc; exact hxc.symm)
    have sgx : x.fdiv c < 0 ↔ x < 0 := by
      constructor
      · intro h; have := Int.mul_neg_of_neg_of_pos h c0; omega
      · intro h
        rcases Int.lt_or_le (x.fdiv c) 0 with z | z
        · exact z
        · have := Int.mul_nonneg z (Int.le_of_lt c0); omega
    refine bstep (ite_t (by rw [em]; simp) (bstep (show atI ((r ++ [x]).map (·.fdiv c)) (-1) = some (x.fdiv c) by rw [em]; exact atI_last _ _) rfl)) ?_
    unfold plainZ
    rw [sgl_snoc, hc]
    by_cases h : x < 0
    · rw [if_pos h]
      refine bstep (ite_t (decide_eq_true (sgx.mpr h)) (bstep (scaled_eq 1 n (by decide) (hb.fdiv dv) (by omega) (by rw [List.length_map]; exact hl)) rfl)) ?_
      show some (trimZ _) = _
      rw [em, List.map_append]
      have e2 : trimZ ((r.map (·.fdiv c)).map ((0 - 1 : Int) * ·) ++ [x.fdiv c].map ((0 - 1 : Int) * ·)) = (r.map (·.fdiv c)).map ((0 - 1 : Int) * ·) ++ [(0 - 1) * x.fdiv c] := trimZ_snoc (fun z => hxn (by have z : (0 - 1) * x.fdiv c = 0 := z; omega)) _
      rw [e2]
      congr 1
      rw [List.map_append, List.map_map]
      have e3 : ∀ a ∈ r ++ [x], (0 - 1) * a.fdiv c = a.fdiv (-1 * c) := fun a ha => by rw [show (-1 : Int) * c = -c by omega, fdiv_neg' (dv a ha)]; omega
      congr 1
      · exact List.map_congr_left fun a ha => e3 a (by simp [ha])
      · show [_] = [_]; rw [e3 x (by simp)]
    · rw [if_neg h]
      refine bstep (ite_f (decide_eq_false (fun z => h (sgx.mp z))) rfl) ?_
      rw [Int.one_mul]
theorem look_poly {f : List Int} (hf : trimd f) (hl : f.length ≤ 13) : y_look_at_poly (eT PyData.int f) = some (.ok ()) := by
  have h : isPolyD (eT PyData.int f) = true := by rw [isPolyD_ints, decide_eq_true hl, trimd_last.mp hf]; rfl
  unfold y_look_at_poly
  refine bstep (show y_is_poly (eT PyData.int f) = some true from ?_) rfl
  unfold y_is_poly
  rw [if_pos (show lenOk (eT PyData.int f) = true from decide_eq_true (by rw [List.length_map]; omega)), h]
theorem eqC_ints (f : List Int) : eqC (eT PyData.int f) (.tuple []) = some f.isEmpty := by
  unfold eqC
  rw [if_pos ⟨shaped_ints f, shaped_nilT⟩, eqv_nilT]
  cases f <;> rfl
theorem look_some {f : List Int} (hf : trimd f) (hl : f.length ≤ 13) (f0 : f ≠ []) : y_look_at_some (eT PyData.int f) = some (.ok ()) := by
  unfold y_look_at_some
  rw [look_poly hf hl]
  show Option.bind (eqC _ _) _ = _
  rw [eqC_ints]
  cases f with
  | nil => exact absurd rfl f0
  | cons a r => rfl
theorem plain_eq {f : List Int} (n : Nat) (hf : trimd f) (hl : f.length ≤ 13) (hb : Bd n f) (hn : n ≤ 50000000) : y_plain f = some (.ok (plainZ f)) := by
  unfold y_plain
  rw [look_poly hf hl]
  show Option.bind (y_plain_of f) _ = _
  rw [plain_of_eq n hf hb hn (by omega)]
  rfl
theorem getD_trim : ∀ (l : List Int) (i : Nat), (trimZ l).getD i 0 = l.getD i 0
  | [], i => rfl
  | a :: r, i => by
    have ih := getD_trim r
    simp only [trimZ]
    cases z : trimZ r with
    | nil =>
      rw [z] at ih
      have ih : ∀ i, r.getD i 0 = 0 := fun i => (ih i).symm.trans (by simp)
      by_cases h : a = 0
      · subst h
        cases i with
        | zero => simp
        | succ i => simpa using (ih i).symm
      · simp only [h, if_false]
        cases i with
        | zero => simp
        | succ i => simpa using (ih i).symm
    | cons b t =>
      rw [z] at ih
      cases i with
      | zero => simp
      | succ i => simpa using ih i
theorem getD_ev {f g : List Int} (h : ∀ x, ev f x = ev g x) (i : Nat) : f.getD i 0 = g.getD i 0 := by rw [← getD_trim f, ← getD_trim g, trimZ_eq h]
open Classical in
noncomputable def quotZ (f g : List Int) : Option (List Int) := if h : ∃ q, trimd q ∧ mulZ q g = f then some h.choose else none
theorem quot_some {f g q : List Int} (hg : trimd g) (g0 : g ≠ []) (hq : trimd q) (e : mulZ q g = f) : quotZ f g = some q := by
  unfold quotZ
  have h : ∃ q, trimd q ∧ mulZ q g = f := ⟨q, hq, e⟩
  rw [dif_pos h]
  have hs := h.choose_spec
  congr 1
  refine mulZ_cancel hg g0 hs.1 hq ?_
  rw [mulZ_comm g, hs.2, mulZ_comm g, e]
theorem quot_none {f g : List Int} (h : ∀ q, trimd q → mulZ q g ≠ f) : quotZ f g = none := by
  unfold quotZ
  rw [dif_neg fun ⟨q, hq, e⟩ => h q hq e]
theorem sub_cancel {u v : List Int} {z : Int} (h : u.length = v.length) : subZ (u ++ [z]) (v ++ [z]) = subZ u v := ev_inj (trimd_sub _ _) (trimd_sub _ _) fun x => by
  rw [ev_sub, ev_sub, ev_app, ev_app, h]; omega
theorem ev_shift (x : Int) (k : Nat) (f : List Int) : ev (List.replicate k 0 ++ f) x = x ^ k * ev f x := by rw [ev_app, ev_zeros, List.length_replicate, Int.zero_add]
theorem ev_set0 (x y : Int) : ∀ (l : List Int) (i : Nat), l[i]? = some 0 → ev (l.set i y) x = ev l x + y * x ^ i
  | [], i, h => by simp at h
  | a :: r, 0, h => by simp at h; subst h; simp [ev]; grind
  | a :: r, i + 1, h => by
    have ih := ev_set0 x y r i (by simpa using h)
    simp only [List.set_cons_succ, ev, Int.pow_succ, ih]
    grind
def quotE (c : Ctl (List Int × List Int) (Option (List Int))) : Option (List Int) := match c with
  | .rt t => t
  | .nx s => if s.2 = [] then some (trimZ s.1) else none
theorem fmod_zero_iff {a b : Int} : a.fmod b = 0 ↔ b ∣ a := Int.dvd_iff_fmod_eq_zero.symm
theorem mul_of_ev {q g f : List Int} (hf : trimd f) (h : ∀ x, ev f x = ev q x * ev g x) : mulZ q g = f := ev_inj (trimd_mul _ _) hf fun x => by rw [ev_mul, h]
theorem quot_loop {one w : List Int} {y : Int} (ho : trimd one) (hy : y ≠ 0) {m B : Nat} (hm : Bd m (w ++ [y])) (hm9 : m ≤ 50000000) (hl : one.length ≤ 500) (hw : w.length ≤ 400) (hB : B + 501 * (m + 1) ≤ 50000000) :
    ∀ (n : Nat) (rows found : List Int), found.length ≤ n → found.length ≤ one.length → trimd found → (∀ x, ev one x = ev rows x * ev (w ++ [y]) x + ev found x) → (∀ i, i + (w.length + 1) ≤ found.length → rows[i]? = some 0) →
      Bd (B + (one.length - found.length) * (m + 1)) found → ∃ r, WhileR (y_quotient_of_c1 (w ++ [y])) (y_quotient_of_b1 (w ++ [y])) (rows, found) r ∧ quotE r = quotZ one (w ++ [y]) := by
  have tg := trimd_snoc (r := w) hy
  have g0 : w ++ [y] ≠ [] := by simp
  have lg : (w ++ [y]).length = w.length + 1 := by simp
  -- what a quotient would leave
  have left : ∀ (rows found q : List Int), trimd found → (∀ x, ev one x = ev rows x * ev (w ++ [y]) x + ev found x) → trimd q → mulZ q (w ++ [y]) = one → found = mulZ (subZ q rows) (w ++ [y]) := fun rows found q ht hev hq e =>
    ev_inj ht (trimd_mul _ _) fun x => by
      have h1 := hev x
      rw [← e, ev_mul] at h1
      rw [ev_mul, ev_sub]
      grind
  have stop : ∀ (rows found : List Int), found.length < w.length + 1 → trimd found → (∀ x, ev one x = ev rows x * ev (w ++ [y]) x + ev found x) → ∃ r, WhileR (y_quotient_of_c1 (w ++ [y])) (y_quotient_of_b1 (w ++ [y])) (rows, found) r ∧ quotE r = quotZ one (w ++ [y]) := by
    intro rows found hlt ht hev
    refine ⟨.nx (rows, found), .stop ?_, ?_⟩
    · show some (decide (((w ++ [y]).length : Int) ≤ (found.length : Int))) = _
      rw [decide_eq_false (by rw [lg]; omega)]
    · show (if found = [] then some (trimZ rows) else none) = _
      by_cases f0 : found = []
      · rw [if_pos f0]
        subst f0
        exact (quot_some tg g0 (trimd_trimZ _) (mul_of_ev ho fun x => by rw [ev_trim, hev]; simp [ev])).symm
      · rw [if_neg f0]
        refine (quot_none fun q hq e => ?_).symm
        have e2 := left rows found q ht hev hq e
        have p0 : subZ q rows ≠ [] := fun z => f0 (by rw [e2, z, mulZ_nil_l])
        have := mulZ_len (trimd_sub q rows) tg p0 g0
        rw [← e2, lg] at this
        have : 0 < (subZ q rows).length := List.length_pos_iff.mpr p0
        omega
  intro n
  induction n with
  | zero =>
    intro rows found hn hle ht hev hz hb
    exact stop rows found (by omega) ht hev
  | succ n ih =>
    intro rows found hn hle ht hev hz hb
    by_cases hlt : found.length < w.length + 1
    · exact stop rows found hlt ht hev
    · have f0 : found ≠ [] := fun z => by rw [z] at hlt; simp at hlt
      obtain ⟨u, c, hc, rfl⟩ := snoc_of ht f0
      have lf : (u ++ [c]).length = u.length + 1 := by simp
      have e1 : atI (u ++ [c]) (-1) = some c := atI_last u c
      have e2 : atI (w ++ [y]) (-1) = some y := atI_last w y
      have hcond : y_quotient_of_c1 (w ++ [y]) (rows, u ++ [c]) = some true := by
        show some (decide (((w ++ [y]).length : Int) ≤ ((u ++ [c]).length : Int))) = _
        rw [decide_eq_true (by rw [lg]; omega)]
      by_cases hd : y ∣ c
      · -- it goes on
        have hby := fdiv_mul hd
        have by0 : c.fdiv y ≠ 0 := fun z => hc (by rw [z, Int.zero_mul] at hby; exact hby.symm)
        generalize hq : c.fdiv y = q at hby by0
        have hcb := hb c (by simp)
        generalize hN : B + (one.length - (u ++ [c]).length) * (m + 1) = N at hb hcb
        have hN5 : N ≤ 50000000 := by
          have : (one.length - (u ++ [c]).length) * (m + 1) ≤ 501 * (m + 1) := Nat.mul_le_mul_right _ (by omega)
          omega
        have hqb : q.natAbs < 2 ^ N := by
          refine Nat.lt_of_le_of_lt ?_ hcb
          rw [← hby, Int.natAbs_mul]
          exact Nat.le_mul_of_pos_right _ (by omega)
        have hym := hm y (by simp)
        -- places
        generalize hk : u.length - w.length = k
        have ek : ((u ++ [c]).length : Int) - ((w ++ [y]).length : Int) = (k : Int) := by rw [lf, lg]; omega
        have hrow := hz k (by rw [lf]; omega)
        have hkr : k < rows.length := (List.getElem?_eq_some_iff.mp hrow).1
        have es : scaleZ q (w ++ [y]) = w.map (q * ·) ++ [q * y] := scale_snoc by0 hy w
        have esh : List.replicate k 0 ++ scaleZ q (w ++ [y]) = (List.replicate k 0 ++ w.map (q * ·)) ++ [c] := by
          rw [es, hby, List.append_assoc]
        have lsh : u.length = (List.replicate k (0 : Int) ++ w.map (q * ·)).length := by simp; rw [lf] at hlt; omega
        have hsub : subZ (u ++ [c]) (List.replicate k 0 ++ scaleZ q (w ++ [y])) = subZ u (List.replicate k 0 ++ w.map (q * ·)) := by rw [esh]; exact sub_cancel lsh
        have hsh : Bd (N + m) (List.replicate k 0 ++ scaleZ q (w ++ [y])) := (Bd.zeros _ _).app (hm.sc hqb)
        have hlsh : (List.replicate k 0 ++ scaleZ q (w ++ [y])).length = u.length + 1 := by rw [esh, List.length_append, ← lsh]; rfl
        have hbody : y_quotient_of_b1 (w ++ [y]) (rows, u ++ [c]) = some (.nx (rows.set k q, subZ (u ++ [c]) (List.replicate k 0 ++ scaleZ q (w ++ [y])))) := by
          unfold y_quotient_of_b1
          refine bstep e1 (bstep e2 (bstep (modC_eq hy) (ite_f (by rw [fmod_zero_iff.mpr hd]; rfl) (bstep e1 (bstep e2 (bstep (fdivQ_eq hy) ?_))))))
          rw [hq, ek]
          refine bstep (setC_nat q hkr) (bstep (repT_zero (by omega) (by rw [lf] at hle; omega)) ?_)
          rw [Int.toNat_natCast]
          refine bstep (scaled_eq N m hqb hm (by omega) (by rw [lg]; omega)) ?_
          refine bstep (show catC (List.replicate k 0) (scaleZ q (w ++ [y])) = some _ from if_pos (by have := congrArg id hlsh; simp only [id, List.length_append] at this; rw [lf] at hle; omega)) ?_
          refine bstep (lessened_by_eq (N + m) (by rw [lf] at hle ⊢; omega) (by rw [hlsh]; rw [lf] at hle; omega) hsh (by omega)) rfl
        have lnew := subZ_len u (List.replicate k 0 ++ w.map (q * ·))
        rw [← lsh] at lnew
        obtain ⟨r, hr, er⟩ := ih (rows.set k q) (subZ (u ++ [c]) (List.replicate k 0 ++ scaleZ q (w ++ [y]))) (by rw [hsub]; rw [lf] at hn; omega) (by rw [hsub]; rw [lf] at hle; omega) (trimd_sub _ _)
          (fun x => by
            rw [ev_set0 x q rows k hrow, ev_sub, ev_shift, ev_scale, hev x]
            grind) (fun i hi => by
            rw [hsub] at hi
            have : i ≠ k := by omega
            rw [List.getElem?_set_ne (Ne.symm this)]
            exact hz i (by rw [lf]; omega))
          (by
            have h1 : Bd (N + m + 1) (subZ (u ++ [c]) (List.replicate k 0 ++ scaleZ q (w ++ [y]))) := Bd.sub (hb.mono (by omega)) hsh
            refine h1.mono ?_
            rw [hsub, ← hN]
            have h2 : (one.length - (u ++ [c]).length) + 1 ≤ one.length - (subZ u (List.replicate k 0 ++ w.map (q * ·))).length := by rw [lf] at hle ⊢; omega
            have h3 := Nat.mul_le_mul_right (m + 1) h2
            rw [Nat.add_mul, Nat.one_mul] at h3
            omega)
        exact ⟨r, .step hcond hbody hr, er⟩
      · -- it ends
        refine ⟨.rt none, .ret hcond ?_, ?_⟩
        · unfold y_quotient_of_b1
          exact bstep e1 (bstep e2 (bstep (modC_eq hy) (ite_t (by rw [decide_eq_false fun z => hd (fmod_zero_iff.mp z)]; rfl) rfl)))
        · show none = _
          refine (quot_none fun q hq e => hd ?_).symm
          have e3 := left rows _ q ht hev hq e
          have p0 : subZ q rows ≠ [] := fun z => f0 (by rw [e3, z, mulZ_nil_l])
          obtain ⟨r, z, hz0, ez⟩ := snoc_of (trimd_sub q rows) p0
          obtain ⟨k, ek, _⟩ := mulZ_last (f := r) (g := w) hz0 hy
          rw [ez, ek] at e3
          have := (List.append_inj' e3 rfl).2
          simp at this
          rw [this]
          exact ⟨z, Int.mul_comm _ _⟩
theorem quotient_of_eq {f g : List Int} (hf : trimd f) (hg : trimd g) (g0 : g ≠ []) {m B : Nat} (hB : Bd B f) (hm : Bd m g) (hm9 : m ≤ 50000000) (hl : f.length ≤ 500) (hw : g.length ≤ 400) (hBm : B + 501 * (m + 1) ≤ 50000000) : y_quotient_of f g = some (quotZ f g) := by
  unfold y_quotient_of
  by_cases f0 : f = []
  · subst f0
    rw [quot_some hg g0 (.inl rfl) (mulZ_nil_l g)]
    rfl
  · obtain ⟨w, y, hy, rfl⟩ := snoc_of hg g0
    have lg : (w ++ [y]).length = w.length + 1 := by simp
    refine ite_f (decide_eq_false f0) ?_
    generalize hk : f.length + 1 - (w ++ [y]).length = k
    have ek : max 0 ((f.length : Int) - ((w ++ [y]).length : Int) + 1) = (k : Int) := by omega
    rw [ek]
    refine bstep (show repL [(0 : Int)] (k : Int) = some (List.replicate k 0) by
      unfold repL
      rw [if_pos ⟨by omega, by omega, by rw [List.length_singleton, Int.toNat_natCast]; omega⟩, repl_zero, Int.toNat_natCast]) ?_
    obtain ⟨r, hr, er⟩ := quot_loop hf hy hm hm9 hl (by rw [lg] at hw; omega) hBm f.length (List.replicate k 0) f (Nat.le_refl _) (Nat.le_refl _) hf (fun x => by rw [ev_zeros]; simp) (fun i hi => by rw [List.getElem?_replicate, if_pos (by omega)]) (by rw [Nat.sub_self, Nat.zero_mul]; exact hB)
    refine bstep (whileC_iff.mpr hr) ?_
    rw [← er]
    cases r with
    | rt t => rfl
    | nx s =>
      show Option.bind (if decide (s.2 = []) = true then _ else _) _ = some (if s.2 = [] then some (trimZ s.1) else none)
      by_cases h : s.2 = []
      · rw [if_pos h]
        exact bstep (ite_t (decide_eq_true h) (bstep (trimmed_eq _) rfl)) rfl
      · rw [if_neg h]
        exact bstep (ite_f (decide_eq_false h) rfl) rfl
theorem quotient_eq {f g : List Int} (hf : trimd f) (hg : trimd g) (g0 : g ≠ []) {m B : Nat} (hB : Bd B f) (hm : Bd m g) (hm9 : m ≤ 50000000) (hl : f.length ≤ 13) (hw : g.length ≤ 13) (hBm : B + 501 * (m + 1) ≤ 50000000) : y_quotient f g = some (.ok (quotZ f g)) := by
  unfold y_quotient
  rw [look_poly hf hl]
  show Option.bind (y_look_at_some _) _ = _
  rw [look_some hg hw g0]
  show Option.bind (y_quotient_of f g) _ = _
  rw [quotient_of_eq hf hg g0 hB hm hm9 (by omega) (by omega) hBm]
  rfl
end AM

set_option Elab.async false
set_option linter.all false
set_option maxRecDepth 100000
set_option maxHeartbeats 1000000
set_option exponentiation.threshold 100
namespace AM
open PySem PySem.Spec PyProof.Rows L2
theorem ltrim_loop : ∀ (n : Nat) (l : List Int), l.length ≤ n → WhileS y__law_trim_c1 y__law_trim_b1 l (trimZ l)
  | n, [], _ => .stop rfl
  | 0, a :: r, h => by simp at h
  | n + 1, a :: r, h => by
    obtain ⟨q, x, e⟩ := snoc_list (List.cons_ne_nil a r)
    rw [e] at h ⊢
    have ec : y__law_trim_c1 (q ++ [x]) = some (decide (x = 0)) := by
      unfold y__law_trim_c1
      exact bstep (ite_t (by simp) (bstep (atI_last q x) rfl)) rfl
    by_cases hx : x = 0
    · have r := ltrim_loop n q (by simp at h; omega)
      rw [hx, trimZ_snoc0]
      refine .step (by rw [hx] at ec; exact ec) (s' := q) ?_ r
      unfold y__law_trim_b1 popC
      simp
    · rw [trimZ_snoc hx]
      exact .stop (by rw [ec, decide_eq_false hx])
theorem law_trim_eq (p : Bool × List Int) : y__law_trim p = some (trimZ p.2) := by
  unfold y__law_trim
  exact bstep (whileO_iff.mpr (ltrim_loop _ _ (Nat.le_refl _))) rfl
def enumF {α : Type} (i : Nat) : List α → List (Int × α)
  | [] => []
  | a :: r => ((i : Int), a) :: enumF (i + 1) r
theorem enumZ_F {α : Type} (l : List α) : enumZ l = enumF 0 l := by
  have key : ∀ (l : List α) (i : Nat), (List.range' i l.length).zipWith (fun i x => (((i : Nat) : Int), x)) l = enumF i l := by
    intro l
    induction l with
    | nil => intro i; rfl
    | cons a r ih => intro i; rw [List.length_cons, List.range'_succ, List.zipWith_cons_cons, ih]; rfl
  unfold enumZ
  rw [List.range_eq_range', key]
theorem addAt_get (acc : List Int) (i : Nat) (x : Int) (h : i < acc.length) : atI acc (i : Int) = some (acc.getD i 0) := by
  rw [atI_nat' h, List.getD_eq_getElem?_getD, List.getElem?_eq_getElem h]; rfl
theorem lmul_inner {k : Nat} {a : Int} {M N : Nat} (ha : a.natAbs < 2 ^ M) (hMN : M + N ≤ 134217728) : ∀ (g : List Int) (i : Nat) (acc : List Int), Bd N g → k + i + g.length ≤ acc.length → forO (y__law_mul_b2 (k : Int) a) (enumF i g) acc = some (inn acc (k + i) a g)
  | [], i, acc, _, _ => rfl
  | b :: g, i, acc, hb, hl => by
    rw [List.length_cons] at hl
    have e : y__law_mul_b2 (k : Int) a acc ((i : Int), b) = some (addAt acc (k + i) (a * b)) := by
      unfold y__law_mul_b2
      have e0 : (k : Int) + (i : Int) = ((k + i : Nat) : Int) := by omega
      refine bstep (by rw [e0]; exact addAt_get acc (k + i) 0 (by omega)) (bstep (mulC_eq M N ha (hb b List.mem_cons_self) hMN) (bstep (by rw [e0]; exact setC_nat _ (by omega)) rfl))
    refine bstep e ?_
    rw [lmul_inner ha hMN g (i + 1) _ (fun x hx => hb x (List.mem_cons_of_mem _ hx)) (by rw [addAt_len]; omega)]
    rfl
theorem lmul_outer {g : List Int} {M N : Nat} (hg : Bd N g) (hMN : M + N ≤ 134217728) : ∀ (f : List Int) (i : Nat) (acc : List Int), Bd M f → f = [] ∨ i + f.length + g.length ≤ acc.length + 1 → forO (y__law_mul_b1 g) (enumF i f) acc = some (out acc i g f)
  | [], i, acc, _, _ => rfl
  | a :: f, i, acc, hb, hl => by
    have hl := hl.resolve_left (List.cons_ne_nil _ _)
    rw [List.length_cons] at hl
    have e : y__law_mul_b1 g acc ((i : Int), a) = some (inn acc i a g) := by
      unfold y__law_mul_b1
      rw [enumZ_F]
      exact bstep (lmul_inner (hb a List.mem_cons_self) hMN g 0 acc hg (by omega)) rfl
    refine bstep e ?_
    rw [lmul_outer hg hMN f (i + 1) _ (fun x hx => hb x (List.mem_cons_of_mem _ hx)) (.inr (by rw [inn_len]; omega))]
    rfl
theorem law_mul_eq {f g : List Int} (M N : Nat) (hf : Bd M f) (hg : Bd N g) (hMN : M + N ≤ 134217728) (lf : f.length ≤ 500) (lg : g.length ≤ 500) : y__law_mul f g = some (mulZ f g) := by
  unfold y__law_mul
  have e0 : (f.length : Int) + (g.length : Int) = ((f.length + g.length : Nat) : Int) := by omega
  refine bstep (show repL [(0 : Int)] _ = some (List.replicate (f.length + g.length) 0) by
    rw [e0]; unfold repL
    rw [if_pos ⟨by omega, by omega, by rw [List.length_singleton, Int.toNat_natCast]; omega⟩, repl_zero, Int.toNat_natCast]) ?_
  rw [enumZ_F]
  refine bstep (lmul_outer hg hMN f 0 _ hf (.inr (by rw [List.length_replicate]; omega))) (bstep (law_trim_eq _) rfl)
theorem mul_inner {k : Nat} {a : Int} {M N : Nat} (ha : a.natAbs < 2 ^ M) (hMN : M + N ≤ 134217728) : ∀ (g : List Int) (i : Nat) (acc : List Int), Bd N g → k + i + g.length ≤ acc.length → forO (y_multiplied_b2 (k : Int) a) (enumF i g) acc = some (inn acc (k + i) a g) := lmul_inner ha hMN
theorem mul_outer {g : List Int} {M N : Nat} (hg : Bd N g) (hMN : M + N ≤ 134217728) : ∀ (f : List Int) (i : Nat) (acc : List Int), Bd M f → f = [] ∨ i + f.length + g.length ≤ acc.length + 1 → forO (y_multiplied_b1 g) (enumF i f) acc = some (out acc i g f) := lmul_outer hg hMN
theorem multiplied_eq {f g : List Int} (M N : Nat) (hf : Bd M f) (hg : Bd N g) (hMN : M + N ≤ 134217728) (lf : f.length ≤ 500) (lg : g.length ≤ 500) : y_multiplied f g = some (mulZ f g) := by
  unfold y_multiplied
  by_cases f0 : f = []
  · subst f0; rw [mulZ_nil_l]; rfl
  · by_cases g0 : g = []
    · subst g0; rw [mulZ_nil_r]; exact ite_t (by simp) rfl
    · have h1 : 0 < f.length := List.length_pos_iff.mpr f0
      refine ite_f (by simp [f0, g0]) ?_
      have e0 : (f.length : Int) + (g.length : Int) - 1 = ((f.length + g.length - 1 : Nat) : Int) := by omega
      refine bstep (show repL [(0 : Int)] _ = some (List.replicate (f.length + g.length - 1) 0) by
        rw [e0]; unfold repL
        rw [if_pos ⟨by omega, by omega, by rw [List.length_singleton, Int.toNat_natCast]; omega⟩, repl_zero, Int.toNat_natCast]) ?_
      rw [enumZ_F]
      refine bstep (mul_outer hg hMN f 0 _ hf (.inr (by rw [List.length_replicate]; omega))) (bstep (trimmed_eq _) ?_)
      rw [mulZ_short f0 g0]
theorem lgcd_loop : ∀ (n : Nat) (a b : Nat), b ≤ n → WhileS y__law_gcd_c2 y__law_gcd_b2 ((a : Int), (b : Int)) ((Nat.gcd a b : Int), 0) := gcd_loop
theorem lgcd_for : ∀ (f : List Int) (g : Nat), forO y__law_gcd_b1 f (g : Int) = some (gcdL g f : Int)
  | [], g => rfl
  | a :: f, g => by
    have e : y__law_gcd_b1 (g : Int) a = some ((Nat.gcd g a.natAbs : Nat) : Int) := by
      unfold y__law_gcd_b1
      exact bstep rfl (bstep (whileO_iff.mpr (lgcd_loop _ g a.natAbs (Nat.le_refl _))) rfl)
    exact bstep e (lgcd_for f _)
theorem law_gcd_eq (f : List Int) : y__law_gcd f = some (cont f : Int) := bstep rfl (bstep (lgcd_for f 0) rfl)
theorem law_plain_eq {f : List Int} (n : Nat) (hf : trimd f) (hb : Bd n f) (hn : n ≤ 50000000) (hl : f.length < 100000) : y__law_plain f = some (plainZ f) := by
  unfold y__law_plain
  refine bstep (law_gcd_eq f) ?_
  by_cases f0 : f = []
  · subst f0; rfl
  · obtain ⟨r, x, hx, rfl⟩ := snoc_of hf f0
    have cp := cont_pos hf f0
    have cl := cont_le hf f0 hb
    refine ite_f (decide_eq_false (by omega)) (bstep (atI_last r x) ?_)
    unfold plainZ
    rw [sgl_snoc]
    by_cases h : x < 0
    · rw [if_pos h]
      refine bstep (ite_t (decide_eq_true h) (bstep rfl rfl)) ?_
      rw [show (0 : Int) - (cont (r ++ [x]) : Int) = -1 * (cont (r ++ [x]) : Int) by omega]
      exact bstep (mapC_eq (g := (·.fdiv (-1 * (cont (r ++ [x]) : Int)))) hl fun a _ => bstep (fdivQ_eq (by omega)) rfl) rfl
    · rw [if_neg h]
      refine bstep (ite_f (decide_eq_false h) rfl) ?_
      rw [Int.one_mul]
      exact bstep (mapC_eq (g := (·.fdiv ((cont (r ++ [x]) : Int)))) hl fun a _ => bstep (fdivQ_eq (by omega)) rfl) rfl
theorem ldiv_inner {k : Nat} {a : Int} {M N : Nat} (ha : a.natAbs < 2 ^ M) (hMN : M + N ≤ 134217728) : ∀ (g : List Int) (i : Nat) (acc : List Int), Bd N g → k + i + g.length ≤ acc.length → forO (y__law_divided_b2 (k : Int) a) (enumF i g) acc = some (inn acc (k + i) (-a) g)
  | [], i, acc, _, _ => rfl
  | b :: g, i, acc, hb, hl => by
    rw [List.length_cons] at hl
    have e : y__law_divided_b2 (k : Int) a acc ((i : Int), b) = some (addAt acc (k + i) (-a * b)) := by
      unfold y__law_divided_b2
      have e0 : (k : Int) + (i : Int) = ((k + i : Nat) : Int) := by omega
      refine bstep (by rw [e0]; exact addAt_get acc (k + i) 0 (by omega)) (bstep (mulC_eq M N ha (hb b List.mem_cons_self) hMN) (bstep (by rw [e0]; exact setC_nat _ (by omega)) ?_))
      unfold addAt
      rw [Int.neg_mul, Int.sub_eq_add_neg]
    refine bstep e ?_
    rw [ldiv_inner ha hMN g (i + 1) _ (fun x hx => hb x (List.mem_cons_of_mem _ hx)) (by rw [addAt_len]; omega)]
    rfl
theorem Bd.addAt {n : Nat} {acc : List Int} {i : Nat} {x : Int} (h : Bd n acc) (hx : x.natAbs < 2 ^ n) : Bd (n + 1) (addAt acc i x) := fun a ha => by
  unfold AM.addAt at ha
  rcases List.mem_or_eq_of_mem_set ha with ha | rfl
  · exact abs_lt_mono (h a ha) (by omega)
  · refine abs_add_lt ?_ hx
    rw [List.getD_eq_getElem?_getD]
    cases z : acc[i]? with
    | none => exact Nat.pow_pos (by decide)
    | some c => exact h c (List.mem_of_getElem? z)
theorem getD_addAt (acc : List Int) (i j : Nat) (x : Int) (h : i < acc.length) : (addAt acc i x).getD j 0 = if j = i then acc.getD i 0 + x else acc.getD j 0 := by
  unfold addAt
  rw [List.getD_eq_getElem?_getD]
  by_cases e : j = i
  · subst e; rw [List.getElem?_set_self h, if_pos rfl]; rfl
  · rw [List.getElem?_set_ne (Ne.symm e), if_neg e, List.getD_eq_getElem?_getD]
theorem inn_out (a : Int) : ∀ (g acc : List Int) (i j : Nat), i + g.length ≤ acc.length → j < i → (inn acc i a g).getD j 0 = acc.getD j 0
  | [], _, _, _, _, _ => rfl
  | b :: g, acc, i, j, h, hj => by
    rw [List.length_cons] at h
    rw [inn, inn_out a g _ (i + 1) j (by rw [addAt_len]; omega) (by omega), getD_addAt _ _ _ _ (by omega), if_neg (by omega)]
theorem mem_getD {l : List Int} {a : Int} (h : a ∈ l) : ∃ i, i < l.length ∧ l.getD i 0 = a := by
  obtain ⟨i, hi, e⟩ := List.mem_iff_getElem.mp h
  exact ⟨i, hi, by rw [List.getD_eq_getElem?_getD, List.getElem?_eq_getElem hi, e]; rfl⟩
theorem Bd.getD {n : Nat} {l : List Int} (h : Bd n l) (i : Nat) : (l.getD i 0).natAbs < 2 ^ n := by
  rw [List.getD_eq_getElem?_getD]
  cases z : l[i]? with
  | none => exact Nat.pow_pos (by decide)
  | some c => exact h c (List.mem_of_getElem? z)
theorem inn_get (a : Int) : ∀ (g acc : List Int) (i : Nat), i + g.length ≤ acc.length → ∀ j, (inn acc i a g).getD j 0 = acc.getD j 0 ∨ ∃ b ∈ g, (inn acc i a g).getD j 0 = acc.getD j 0 + a * b
  | [], _, _, _, _ => .inl rfl
  | b :: g, acc, i, h, j => by
    rw [List.length_cons] at h
    rw [inn]
    by_cases e : j < i + 1
    · rw [inn_out a g _ (i + 1) j (by rw [addAt_len]; omega) e, getD_addAt _ _ _ _ (by omega)]
      by_cases e2 : j = i
      · rw [if_pos e2]; subst e2; exact .inr ⟨b, List.mem_cons_self, rfl⟩
      · rw [if_neg e2]; exact .inl rfl
    · have hj : (AM.addAt acc i (a * b)).getD j 0 = acc.getD j 0 := by rw [getD_addAt _ _ _ _ (by omega), if_neg (by omega)]
      rcases inn_get a g (AM.addAt acc i (a * b)) (i + 1) (by rw [addAt_len]; omega) j with h2 | ⟨c, hc, h2⟩
      · rw [hj] at h2; exact .inl h2
      · rw [hj] at h2; exact .inr ⟨c, List.mem_cons_of_mem _ hc, h2⟩
theorem Bd.inn {n m : Nat} {acc g : List Int} {i : Nat} {a : Int} (h : Bd n acc) (ha : a.natAbs < 2 ^ n) (hg : Bd m g) (hl : i + g.length ≤ acc.length) : Bd (n + m + 1) (inn acc i a g) := fun c hc => by
  obtain ⟨j, _, e⟩ := mem_getD hc
  rcases inn_get a g acc i hl j with h2 | ⟨b, hb, h2⟩
  · rw [e] at h2; rw [h2]; exact abs_lt_mono (h.getD j) (by omega)
  · rw [e] at h2; rw [h2]
    exact abs_add_lt (abs_lt_mono (h.getD j) (by omega)) (abs_mul_lt ha (hg b hb))
theorem fdiv_abs (a b : Int) : (a.fdiv b).natAbs ≤ a.natAbs := by
  by_cases hb : b = 0
  · subst hb; rw [Int.fdiv_zero]; simp
  · by_cases hp : 0 < b
    · rw [Int.fdiv_eq_ediv_of_nonneg _ (by omega)]
      exact Int.natAbs_ediv_le_natAbs a b
    · have e : a.fdiv b = (-a).fdiv (-b) := (Int.neg_fdiv_neg a b).symm
      rw [e, Int.fdiv_eq_ediv_of_nonneg _ (by omega)]
      have := Int.natAbs_ediv_le_natAbs (-a) (-b)
      rwa [Int.natAbs_neg] at this
theorem rngD_succ (n : Nat) : rngD (n : Int) (n + 1) = (n : Int) :: rngD ((n : Int) - 1) n := by
  unfold rngD
  rw [List.range_succ_eq_map, List.map_cons, List.map_map]
  have e1 : (n : Int) - ((0 : Nat) : Int) = (n : Int) := by omega
  rw [e1]
  refine congrArg _ (List.map_congr_left fun i _ => ?_)
  show (n : Int) - ((i + 1 : Nat) : Int) = (n : Int) - 1 - (i : Int)
  omega
theorem ldiv_loop {f w : List Int} {y : Int} (hy : y ≠ 0) {m B : Nat} (hm : Bd m (w ++ [y])) (hm9 : m ≤ 50000000) (hl : f.length ≤ 500) (hB : B + 501 * (m + 1) ≤ 50000000) :
    ∀ (j : Nat) (rows left : List Int), j ≤ 501 → j + w.length ≤ left.length → j ≤ rows.length → (∀ i, i < j → rows[i]? = some 0) → (∀ x, ev f x = ev rows x * ev (w ++ [y]) x + ev left x) → Bd (B + (501 - j) * (m + 1)) left →
      ∃ r l, forO (y__law_divided_b1 (w ++ [y])) (rngD ((j : Int) - 1) j) (rows, left) = some (r, l) ∧ (∀ x, ev f x = ev r x * ev (w ++ [y]) x + ev l x) ∧ ∀ q : List Int, (∀ x, ev left x = ev (q.take j) x * ev (w ++ [y]) x) → ∀ x, ev l x = 0
  | 0, rows, left, _, _, _, _, hev, _ => ⟨rows, left, rfl, hev, fun q hq x => by rw [hq x]; simp [ev]⟩
  | j + 1, rows, left, hj, hlen, hrl, hz, hev, hb => by
    have lg : (w ++ [y]).length = w.length + 1 := by simp
    have e0 : ((j + 1 : Nat) : Int) - 1 = (j : Int) := by omega
    rw [e0, rngD_succ]
    generalize hN : B + (501 - (j + 1)) * (m + 1) = N at hb
    have hN5 : N + (m + 1) ≤ 50000000 := by
      have : (501 - (j + 1) + 1) * (m + 1) ≤ 501 * (m + 1) := Nat.mul_le_mul_right _ (by omega)
      rw [Nat.add_mul, Nat.one_mul] at this
      omega
    have e1 : atI left ((j : Int) + ((w ++ [y]).length : Int) - 1) = some (left.getD (j + w.length) 0) := by
      rw [show (j : Int) + ((w ++ [y]).length : Int) - 1 = ((j + w.length : Nat) : Int) by rw [lg]; omega]
      exact addAt_get left _ 0 (by omega)
    have hcb := hb.getD (j + w.length)
    generalize hc : left.getD (j + w.length) 0 = c at e1 hcb
    have hq : (c.fdiv y).natAbs < 2 ^ N := Nat.lt_of_le_of_lt (fdiv_abs c y) hcb
    generalize hqe : c.fdiv y = q0 at hq
    have hin := ldiv_inner (k := j) (M := N) (N := m) hq (by omega) (w ++ [y]) 0 left hm (by rw [lg]; omega)
    have hrow := hz j (by omega)
    have hstep : y__law_divided_b1 (w ++ [y]) (rows, left) (j : Int) = some (rows.set j q0, inn left j (-q0) (w ++ [y])) := by
      unfold y__law_divided_b1
      refine bstep e1 (bstep (atI_last w y) (bstep (fdivQ_eq hy) ?_))
      rw [hqe]
      refine bstep (show setC rows (j : Int) q0 = some (rows.set j q0) from setC_nat q0 (by omega)) ?_
      rw [enumZ_F]
      exact bstep hin rfl
    have hbn : Bd (N + m + 1) (inn left j (-q0) (w ++ [y])) := hb.inn (by rw [Int.natAbs_neg]; exact hq) hm (by rw [lg]; omega)
    obtain ⟨r, l, h1, h2, h3⟩ := ldiv_loop hy hm hm9 hl hB j (rows.set j q0) (inn left j (-q0) (w ++ [y])) (by omega) (by rw [inn_len]; omega) (by rw [List.length_set]; omega) (fun i hi => by rw [List.getElem?_set_ne (by omega)]; exact hz i (by omega))
      (fun x => by
        rw [ev_set0 x q0 rows j hrow, ev_inn x _ _ _ _ (by rw [lg]; omega), hev x]
        grind) (hbn.mono (by
          rw [← hN]
          have e2 : 501 - j = (501 - (j + 1)) + 1 := by omega
          rw [e2, Nat.add_mul, Nat.one_mul]; omega))
    refine ⟨r, l, bstep hstep h1, h2, fun q hq2 x => h3 q (fun x => ?_) x⟩
    -- the number that is found is q's own
    have key : c = q.getD j 0 * y := by
      by_cases hjq : j < q.length
      · have et : q.take (j + 1) = q.take j ++ [q.getD j 0] := by rw [take_snoc (List.getElem?_eq_getElem hjq), List.getD_eq_getElem?_getD, List.getElem?_eq_getElem hjq]; rfl
        obtain ⟨k, ek, lk⟩ := mulK_last w y (q.take j) (q.getD j 0)
        have e4 := getD_ev (f := left) (g := mulK (q.take (j + 1)) (w ++ [y])) (fun x => by rw [hq2 x, ev_mulK]) (j + w.length)
        rw [hc, et, ek] at e4
        rw [e4, List.getD_eq_getElem?_getD]
        have lt : (q.take j).length = j := by rw [List.length_take]; omega
        rw [List.getElem?_append_right (by omega), lk, lt, Nat.sub_self]
        rfl
      · have et : q.take (j + 1) = q := List.take_of_length_le (by omega)
        have e4 := getD_ev (f := left) (g := mulK q (w ++ [y])) (fun x => by rw [hq2 x, ev_mulK, et]) (j + w.length)
        rw [hc] at e4
        have e5 : q.getD j 0 = 0 := by rw [List.getD_eq_getElem?_getD, List.getElem?_eq_none_iff.mpr (by omega)]; rfl
        rw [e5, Int.zero_mul, e4]
        -- degree of the product
        by_cases q0' : q = []
        · subst q0'; simp [mulK]
        · obtain ⟨u, z, eu⟩ := snoc_list q0'
          obtain ⟨k, ek, lk⟩ := mulK_last w y u z
          rw [eu, ek, List.getD_eq_getElem?_getD, List.getElem?_eq_none_iff.mpr (by rw [List.length_append, lk, List.length_singleton]; rw [eu, List.length_append, List.length_singleton] at hjq; omega)]
          rfl
    have hq3 : q0 = q.getD j 0 := by rw [← hqe, key, Int.mul_fdiv_cancel _ hy]
    rw [ev_inn x _ _ _ _ (by rw [lg]; omega), hq2 x, hq3]
    by_cases hjq : j < q.length
    · have et : q.take (j + 1) = q.take j ++ [q.getD j 0] := by rw [take_snoc (List.getElem?_eq_getElem hjq), List.getD_eq_getElem?_getD, List.getElem?_eq_getElem hjq]; rfl
      have lt : (q.take j).length = j := by rw [List.length_take]; omega
      rw [et, ev_app, lt]
      simp only [ev]
      grind
    · have et : q.take (j + 1) = q.take j := by rw [List.take_of_length_le (by omega), List.take_of_length_le (by omega)]
      have e5 : q.getD j 0 = 0 := by rw [List.getD_eq_getElem?_getD, List.getElem?_eq_none_iff.mpr (by omega)]; rfl
      rw [et, e5]
      simp
theorem law_divided_eq {f g : List Int} (hf : trimd f) (hg : trimd g) (g0 : g ≠ []) {m B : Nat} (hB : Bd B f) (hm : Bd m g) (hm9 : m ≤ 50000000) (hl : f.length ≤ 500) (hw : g.length ≤ 400) (hBm : B + 501 * (m + 1) ≤ 50000000) : y__law_divided f g = some (quotZ f g) := by
  unfold y__law_divided
  obtain ⟨w, y, hy, rfl⟩ := snoc_of hg g0
  have lg : (w ++ [y]).length = w.length + 1 := by simp
  generalize hk : f.length + 1 - (w ++ [y]).length = k
  have ek : max 0 ((f.length : Int) - ((w ++ [y]).length : Int) + 1) = (k : Int) := by omega
  rw [ek]
  refine bstep (show repL [(0 : Int)] (k : Int) = some (List.replicate k 0) by
    unfold repL
    rw [if_pos ⟨by omega, by omega, by rw [List.length_singleton, Int.toNat_natCast]; omega⟩, repl_zero, Int.toNat_natCast]) ?_
  refine bstep (show rng3 ((f.length : Int) - ((w ++ [y]).length : Int)) (-1) = some (rngD ((k : Int) - 1) k) by
    unfold rng3
    rw [if_pos ⟨⟨by omega, by omega⟩, by decide, by decide⟩]
    by_cases h : (w ++ [y]).length ≤ f.length
    · rw [show (f.length : Int) - ((w ++ [y]).length : Int) = (k : Int) - 1 by omega, show ((k : Int) - 1 - -1).toNat = k by omega]
    · rw [show k = 0 by omega, show ((f.length : Int) - ((w ++ [y]).length : Int) - -1).toNat = 0 by omega]; rfl) ?_
  by_cases hlt : f.length < (w ++ [y]).length
  · -- nothing to divide
    have k0 : k = 0 := by omega
    subst k0
    refine bstep (show forO _ (rngD _ 0) _ = some (List.replicate 0 0, f) from rfl) (bstep (law_trim_eq _) ?_)
    show Option.bind (if decide (trimZ f = []) = true then _ else _) _ = _
    rw [trimZ_id hf]
    by_cases f0 : f = []
    · subst f0
      rw [quot_some hg g0 (.inl rfl) (mulZ_nil_l _)]
      exact bstep (ite_t rfl (bstep (law_trim_eq _) rfl)) rfl
    · rw [quot_none fun q hq e => ?_]
      · exact bstep (ite_f (decide_eq_false f0) rfl) rfl
      · have q0 : q ≠ [] := fun z => f0 (by rw [← e, z, mulZ_nil_l])
        have := mulZ_len hq hg q0 g0
        rw [e] at this
        have : 0 < q.length := List.length_pos_iff.mpr q0
        omega
  · obtain ⟨r, l, h1, h2, h3⟩ := ldiv_loop (f := f) hy hm hm9 hl hBm k (List.replicate k 0) f (by omega) (by omega) (by rw [List.length_replicate]; omega) (fun i hi => by rw [List.getElem?_replicate, if_pos hi]) (fun x => by rw [ev_zeros]; simp) (hB.mono (by omega))
    refine bstep h1 (bstep (law_trim_eq _) ?_)
    show Option.bind (if decide (trimZ l = []) = true then _ else _) _ = _
    by_cases l0 : trimZ l = []
    · have e : quotZ f (w ++ [y]) = some (trimZ r) := quot_some hg g0 (trimd_trimZ _) (mul_of_ev hf fun x => by
        rw [ev_trim, h2 x]
        have : ev l x = 0 := by rw [← ev_trim, l0]; rfl
        omega)
      rw [e]
      exact bstep (ite_t (decide_eq_true l0) (bstep (law_trim_eq _) rfl)) rfl
    · rw [quot_none fun q hq e => l0 ?_]
      · exact bstep (ite_f (decide_eq_false l0) rfl) rfl
      · have f0 : f ≠ [] := fun z => by rw [z] at hlt; simp at hlt
        have q0 : q ≠ [] := fun z => f0 (by rw [← e, z, mulZ_nil_l])
        have hql := mulZ_len hq hg q0 g0
        rw [e] at hql
        have : 0 < q.length := List.length_pos_iff.mpr q0
        have et : q.take k = q := List.take_of_length_le (by omega)
        have := h3 q (fun x => by rw [et, ← ev_mul, e])
        exact ev_inj (trimd_trimZ _) (.inl rfl) fun x => by rw [ev_trim, this]; rfl
end AM

set_option Elab.async false
set_option linter.all false
set_option maxRecDepth 100000
set_option maxHeartbeats 1000000
set_option exponentiation.threshold 100
namespace AM
open PySem PySem.Spec PyProof.Rows L2
def lowZ (a b : Int) : Int × Int := (lowT a b, lowB a b)
theorem sgcd_lt {a b : Int} {n : Nat} (h0 : b ≠ 0) (hb : b.natAbs < 2 ^ n) : (sgcd a b).natAbs < 2 ^ n := Nat.lt_of_le_of_lt (sgcd_abs h0) hb
theorem lowest_eq {a b : Int} (n : Nat) (h0 : b ≠ 0) (hb : b.natAbs < 2 ^ n) (hn : n ≤ 9000) : y_lowest a b = some (lowZ a b) := by
  unfold y_lowest
  refine bstep (greatest_eq a b) (bstep (x := sgcd a b) ?_ ?_)
  · unfold sgcd
    by_cases h : b < 0
    · rw [if_pos h]; exact ite_t (decide_eq_true h) rfl
    · rw [if_neg h]; exact ite_f (decide_eq_false h) rfl
  · exact bstep (fdivC_eq n (sgcd_ne h0) (sgcd_lt h0 hb) hn) (bstep (fdivC_eq n (sgcd_ne h0) (sgcd_lt h0 hb) hn) rfl)
theorem llow_loop : ∀ (n : Nat) (a b : Nat), b ≤ n → WhileS y__law_low_c1 y__law_low_b1 ((a : Int), (b : Int)) ((Nat.gcd a b : Int), 0) := gcd_loop
theorem law_low_eq {a b : Int} (n : Nat) (h0 : b ≠ 0) (hb : b.natAbs < 2 ^ n) (hn : n ≤ 9000) : y__law_low a b = some (lowZ a b) := by
  unfold y__law_low
  refine bstep rfl (bstep rfl (bstep (whileO_iff.mpr (llow_loop _ a.natAbs b.natAbs (Nat.le_refl _))) (bstep (x := sgcd a b) ?_ ?_)))
  · unfold sgcd
    by_cases h : b < 0
    · rw [if_pos h]; exact ite_t (decide_eq_true h) rfl
    · rw [if_neg h]; exact ite_f (decide_eq_false h) rfl
  · exact bstep (fdivC_eq n (sgcd_ne h0) (sgcd_lt h0 hb) hn) (bstep (fdivC_eq n (sgcd_ne h0) (sgcd_lt h0 hb) hn) rfl)
def Rat' (q : Int × Int) : Prop := 0 < q.2 ∧ Int.gcd q.1 q.2 = 1
theorem isRatio_iff (q : Int × Int) : isRatioD (eP PyData.int PyData.int q) = true ↔ Rat' q := by
  unfold isRatioD Rat'
  simp
  omega
theorem low_ex {a b : Int} (h0 : b ≠ 0) : ∃ s u v : Int, sgcd a b = s ∧ s ≠ 0 ∧ a = s * u ∧ b = s * v ∧ 0 < v ∧ Int.gcd u v = 1 := by
  have g0 := gcd_pos (a := a) h0
  obtain ⟨u, hu⟩ : (Int.gcd a b : Int) ∣ a := Int.gcd_dvd_left ..
  obtain ⟨v, hv⟩ : (Int.gcd a b : Int) ∣ b := Int.gcd_dvd_right ..
  have gg : (Int.gcd a b) = (Int.gcd a b) * Int.gcd u v := by
    have : Int.gcd a b = Int.gcd ((Int.gcd a b : Int) * u) ((Int.gcd a b : Int) * v) := by rw [← hu, ← hv]
    rw [Int.gcd_mul_left] at this
    simpa using this
  have g1 : Int.gcd u v = 1 := Nat.eq_of_mul_eq_mul_left g0 (by rw [← gg]; simp)
  unfold sgcd
  generalize Int.gcd a b = g at *
  have hg : (0 : Int) < (g : Int) := by omega
  by_cases h : b < 0
  · rw [if_pos h]
    refine ⟨0 - g, -u, -v, rfl, by omega, by grind, by grind, ?_, ?_⟩
    · rcases Int.lt_or_le v 0 with z | z
      · omega
      · have := Int.mul_nonneg (Int.le_of_lt hg) z; omega
    · rw [Int.neg_gcd, Int.gcd_neg]; exact g1
  · rw [if_neg h]
    refine ⟨g, u, v, rfl, by omega, hu, hv, ?_, g1⟩
    rcases Int.lt_or_le 0 v with z | z
    · exact z
    · have : (g : Int) * v ≤ 0 := Int.mul_nonpos_of_nonneg_of_nonpos (Int.le_of_lt hg) z
      omega
theorem low_rat {a b : Int} (h0 : b ≠ 0) : Rat' (lowZ a b) ∧ (lowZ a b).1 * b = a * (lowZ a b).2 := by
  obtain ⟨s, u, v, e, s0, ha, hb, hv, hg⟩ := low_ex (a := a) h0
  unfold lowZ lowT lowB
  rw [e]
  have e1 : a.fdiv s = u := by rw [ha]; exact Int.mul_fdiv_cancel_left _ s0
  have e2 : b.fdiv s = v := by rw [hb]; exact Int.mul_fdiv_cancel_left _ s0
  rw [e1, e2]
  exact ⟨⟨hv, hg⟩, by show u * b = a * v; rw [ha, hb]; grind⟩
theorem low_abs {a b : Int} (h0 : b ≠ 0) : (lowZ a b).1.natAbs ≤ a.natAbs ∧ (lowZ a b).2.natAbs ≤ b.natAbs := ⟨fdiv_abs _ _, fdiv_abs _ _⟩
theorem pl_R (q : Int × Int) : pl 12 (eP PyData.int PyData.int q) := pl_ints 11 (ns := [q.1, q.2]) (by simp)
theorem top_loop {t b : Int} (ht : t.natAbs < 2 ^ 64) (hb : b.natAbs < 2 ^ 64) : ∀ (l : List Int) (q : Int × Int), Bd 64 l → forO (y_top_at_b1 t b) l q = some (topL t b l q)
  | [], q, _ => rfl
  | a :: l, (f, p), h => bstep (show y_top_at_b1 t b (f, p) a = some (f * t + a * p, p * b) from bstep (mulC_r ht) (bstep (mulC_l (h a List.mem_cons_self)) (bstep rfl (bstep (mulC_r hb) rfl)))) (top_loop ht hb l _ fun x hx => h x (List.mem_cons_of_mem _ hx))
theorem top_at_eq {f : List Int} {q : Int × Int} (h1 : q.1.natAbs < 2 ^ 64) (h2 : q.2.natAbs < 2 ^ 64) (hf : Bd 64 f) : y_top_at f q = some (topZ f q.1 q.2) :=
  bstep rfl (bstep rfl (bstep (top_loop h1 h2 f.reverse (0, 1) fun x hx => hf x (List.mem_reverse.mp hx)) rfl))
theorem ltop_loop {q : Int × Int} (ht : q.1.natAbs < 2 ^ 64) (hb : q.2.natAbs < 2 ^ 64) : ∀ (l : List Int) (r : Int × Int), Bd 64 l → forO (y__law_at_b1 q) l r = some (topL q.1 q.2 l r)
  | [], r, _ => rfl
  | a :: l, (f, p), h => bstep (show y__law_at_b1 q (f, p) a = some (f * q.1 + a * p, p * q.2) from bstep (mulC_r ht) (bstep (mulC_l (h a List.mem_cons_self)) (bstep rfl (bstep (mulC_r hb) rfl)))) (ltop_loop ht hb l _ fun x hx => h x (List.mem_cons_of_mem _ hx))
theorem pow_lt {b : Int} (hb : b.natAbs < 2 ^ 64) {n : Nat} (hn : n ≤ 13) : (b ^ n).natAbs < 2 ^ 832 := by
  rw [Int.natAbs_pow]
  by_cases h : n = 0
  · subst h; rw [Nat.pow_zero]; decide
  · refine Nat.lt_of_lt_of_le (Nat.pow_lt_pow_left hb h) ?_
    rw [← Nat.pow_mul]
    exact Nat.pow_le_pow_right (by decide) (by omega)
theorem law_at_eq {f : List Int} {q : Int × Int} (hq : Rat' q) (h1 : q.1.natAbs < 2 ^ 64) (h2 : q.2.natAbs < 2 ^ 64) (hf : Bd 64 f) (hl : f.length ≤ 13) : y__law_at f q = some (lowZ (topZ f q.1 q.2) (q.2 ^ (f.length - 1))) := by
  unfold y__law_at
  refine bstep rfl (bstep rfl (bstep (ltop_loop h1 h2 f.reverse (0, 1) fun x hx => hf x (List.mem_reverse.mp hx)) ?_))
  by_cases f0 : f = []
  · subst f0
    exact bstep (ite_t rfl (bstep (show y__law_low 0 1 = some (lowZ 0 1) from law_low_eq 1 (by decide) (by decide) (by decide)) rfl)) (by show _ = some (lowZ 0 (q.2 ^ 0)); rw [Int.pow_zero])
  · have hp : 0 < f.length := List.length_pos_iff.mpr f0
    have e : (topL q.1 q.2 f.reverse (0, 1)).2.fdiv q.2 = q.2 ^ (f.length - 1) := by
      rw [topL_pow, List.length_reverse]
      obtain ⟨n, hn⟩ : ∃ n, f.length = n + 1 := ⟨f.length - 1, by omega⟩
      rw [hn, Nat.add_sub_cancel, Int.pow_succ, Int.one_mul]
      exact Int.mul_fdiv_cancel _ (by have := hq.1; omega)
    refine bstep (ite_f (decide_eq_false f0) (bstep (fdivC_eq 64 (by have := hq.1; omega) h2 (by decide)) ?_)) rfl
    rw [e]
    exact bstep (law_low_eq 832 (by have h3 : 0 < q.2 ^ (f.length - 1) := Int.pow_pos hq.1; omega) (pow_lt h2 (by omega)) (by decide)) rfl
theorem value_loop {q : Int × Int} (h2 : q.2.natAbs < 2 ^ 64) : ∀ (l : List Int) (s : Int), forO (y_value_at_b1 (eP PyData.int PyData.int q)) l s = some (s * q.2 ^ l.length)
  | [], s => by show some s = _; simp
  | a :: l, s => by
    refine bstep (show y_value_at_b1 (eP PyData.int PyData.int q) s a = some (s * q.2) from bstep rfl (bstep (mulC_r h2) rfl)) ?_
    rw [value_loop h2 l, List.length_cons, Int.pow_succ]
    congr 1
    grind
theorem value_at_eq {f : List Int} {q : Int × Int} (tf : trimd f) (hq : Rat' q) (h1 : q.1.natAbs < 2 ^ 64) (h2 : q.2.natAbs < 2 ^ 64) (hf : Bd 64 f) (hl : f.length ≤ 13) : y_value_at f (eP PyData.int PyData.int q) = some (.ok (lowZ (topZ f q.1 q.2) (q.2 ^ (f.length - 1)))) := by
  unfold y_value_at
  refine bstep (look_poly tf hl) ?_
  have er : y_is_ratio (eP PyData.int PyData.int q) = some true := by unfold y_is_ratio; rw [(isRatio_iff q).mpr hq]
  refine bstep er (ite_f rfl (bstep rfl (bstep (show y_degree_of f = some ((f.length : Int) - 1) from rfl) (bstep (rng1_eq (by omega) (by omega)) (bstep (value_loop h2 _ 1) ?_)))))
  rw [rngZ_len, show ((f.length : Int) - 1).toNat = f.length - 1 by omega, Int.one_mul]
  refine bstep (show asR (eP PyData.int PyData.int q) = some q from rfl) (bstep (top_at_eq h1 h2 hf) (bstep (lowest_eq 832 (by have h3 : 0 < q.2 ^ (f.length - 1) := Int.pow_pos hq.1; omega) (pow_lt h2 (by omega)) (by decide)) rfl))
theorem value_at_no {f : List Int} {d : PyData} (tf : trimd f) (hl : f.length ≤ 13) (hd : isRatioD d = false) : y_value_at f d = some (.ex .NoRatio) := by
  unfold y_value_at
  refine bstep (look_poly tf hl) ?_
  exact bstep (show y_is_ratio d = some false by unfold y_is_ratio; rw [hd]) rfl
theorem ratio_spec {n : Int} {b : Bag} (ok : BagOk n b) (hn : n + 5 ≤ 1000000000 := by omega) : ∃ v, y__law_ratio b = some v ∧ (Rat' v.1 ∧ v.1.1.natAbs ≤ 1000000 ∧ v.1.2 ≤ 30) ∧ BagOk (n + 5) v.2 := by
  obtain ⟨t, e, ht, okt⟩ := int_spec ok
  obtain ⟨t1, e1, ht1, ok1⟩ := take_spec okt 4
  obtain ⟨t2, e2, ht2, ok2⟩ := take_spec ok1 30
  obtain ⟨t3, e3, ht3, ok3⟩ := take_spec ok2 2
  have h4 : ∃ x, atI [t1.1, t2.1] t3.1 = some x ∧ 0 ≤ x ∧ x < 30 := by
    have : t3.1 = 0 ∨ t3.1 = 1 := by omega
    rcases this with z | z <;> rw [z]
    · exact ⟨t1.1, rfl, by omega, by omega⟩
    · exact ⟨t2.1, rfl, by omega, by omega⟩
  obtain ⟨x, e4, hx⟩ := h4
  have l := low_abs (a := t.1) (b := 1 + x) (by omega)
  have lr := low_rat (a := t.1) (b := 1 + x) (by omega)
  refine ⟨(lowZ t.1 (1 + x), t3.2), bstep e (bstep e1 (bstep e2 (bstep e3 (bstep e4 (bstep (law_low_eq 64 (by omega) (by omega) (by decide)) rfl))))), ⟨lr.1, ?_, ?_⟩, ok3.mono (by omega)⟩
  · show (lowZ t.1 (1 + x)).1.natAbs ≤ _; omega
  · show (lowZ t.1 (1 + x)).2 ≤ _; have := lr.1.1; omega
theorem wide_spec {n : Int} {b : Bag} (ok : BagOk n b) (hn : n + 3 ≤ 1000000000 := by omega) : ∃ v, y__law_wide b = some v ∧ (-1000000000000000 ≤ v.1 ∧ v.1 ≤ 1000000000000000) ∧ BagOk (n + 3) v.2 := by
  obtain ⟨t, e, ht, okt⟩ := take_spec ok 4
  by_cases h2 : t.1 < 2
  · obtain ⟨u, e2, hu, oku⟩ := int_spec okt
    exact ⟨_, bstep e (ite_t (decide_eq_true h2) (bstep e2 rfl)), by constructor <;> (simp only []; omega), oku.mono (by omega)⟩
  · by_cases h3 : t.1 = 2
    · obtain ⟨u, e2, hu, oku⟩ := take_spec okt 2000000000000001
      exact ⟨_, bstep e (ite_f (decide_eq_false h2) (ite_t (decide_eq_true h3) (bstep (mulC_l (by decide)) (bstep e2 rfl)))), by constructor <;> (simp only []; omega), oku.mono (by omega)⟩
    · obtain ⟨u, e2, hu, oku⟩ := take_spec okt 5
      obtain ⟨x, e3, hx, _⟩ := atI_pos (xs := [(0 : Int), (1 : Int), (-(1 : Int)), (1000000000000000 : Int), ((0 : Int) - (1000000000000000 : Int))]) hu.1 (by simp; omega)
      refine ⟨(x, u.2), bstep e (ite_f (decide_eq_false h2) (ite_f (decide_eq_false h3) (bstep e2 (bstep e3 rfl)))), ?_, oku.mono (by omega)⟩
      simp only [List.mem_cons, List.not_mem_nil, or_false] at hx
      rcases hx with rfl | rfl | rfl | rfl | rfl <;> simp
theorem wide_poly_spec {n : Int} {b : Bag} (ok : BagOk n b) (hn : n + 100 ≤ 1000000000 := by omega) : ∃ v, y__law_wide_poly b = some v ∧ (trimd v.1 ∧ v.1.length ≤ 13 ∧ ∀ a ∈ v.1, -1000000000000000 ≤ a ∧ a ≤ 1000000000000000) ∧ BagOk (n + 100) v.2 := by
  obtain ⟨t, e, ht, okt⟩ := take_spec ok 14
  have l1 := rngZ_len 0 t.1.toNat
  obtain ⟨row, e2, hl, hrow, okr⟩ := mapBC_spec (f := fun b1 (x1 : Int) => (Option.bind (y__law_wide b1) fun t2 => some (t2.1, t2.2))) (post := fun z => -1000000000000000 ≤ z ∧ z ≤ 1000000000000000) 3 (xs := rngZ 0 t.1.toNat) (fun n b x _ ok hn => by
    obtain ⟨v, e, hv, okv⟩ := wide_spec ok
    exact ⟨v, bstep e rfl, hv, okv⟩) okt (by rw [l1]; omega) (by rw [l1]; omega)
  have tl := trimZ_len row.1
  refine ⟨(trimZ row.1, row.2), bstep e (bstep (rng1_eq (by omega) (by omega)) (bstep e2 (bstep (law_trim_eq _) rfl))), ⟨trimd_trimZ _, by show (trimZ row.1).length ≤ 13; omega, fun a ha => hrow a (trimZ_mem ha)⟩, okr.mono (by rw [l1]; omega)⟩
def oddL : List PyData := [(eU ()), (PyData.bool true), (PyData.bool false), (PyData.str ("" : Str)), (PyData.str ("1" : Str)), (PyData.tuple []), (PyData.list []), ((eT PyData.int) [(1 : Int)]), ((eL PyData.int) [(1 : Int), (1 : Int)]), ((eP PyData.int PyData.int) ((1 : Int), (1 : Int))), ((eP eU PyData.int) ((), (1 : Int)))]
theorem odd_spec {n : Int} {b : Bag} (ok : BagOk n b) (hn : n + 1 ≤ 1000000000 := by omega) : ∃ v, y__law_odd b = some v ∧ v.1 ∈ oddL ∧ BagOk (n + 1) v.2 := by
  obtain ⟨t, e, ht, okt⟩ := take_spec ok 11
  obtain ⟨x, e3, hx, _⟩ := atI_pos (xs := oddL) ht.1 (by show t.1 < 11; omega)
  exact ⟨(x, t.2), bstep e (bstep e3 rfl), hx, okt⟩
theorem law_sum_eq {p : Bool × List Int} {g : List Int} (hf : p.2.length ≤ 500) (hg : g.length ≤ 500) : y__law_sum p g = some (addZ p.2 g) := by
  obtain ⟨_, f⟩ := p
  have hf : f.length ≤ 500 := hf
  unfold y__law_sum
  simp only [Option.bind_some]
  rw [repT_zero (by omega) (by omega)]
  simp only [Option.bind_some]
  have e1 : (max (f.length : Int) (g.length : Int) - (f.length : Int)).toNat = max f.length g.length - f.length := by omega
  have e2 : (max (f.length : Int) (g.length : Int) - (g.length : Int)).toNat = max f.length g.length - g.length := by omega
  rw [catC, if_pos (by rw [List.length_replicate]; omega), e1]
  simp only [Option.bind_some]
  rw [repT_zero (by omega) (by omega), e2]
  simp only [Option.bind_some]
  rw [catC, if_pos (by rw [List.length_replicate]; omega)]
  simp only [Option.bind_some]
  rw [mapC_eq (f := fun x : Int × Int => some (x.1 + x.2)) (g := fun x => x.1 + x.2) (by rw [List.length_zip, List.length_append, List.length_append, List.length_replicate, List.length_replicate]; omega) (fun _ _ => rfl)]
  simp only [Option.bind_some]
  rw [law_trim_eq]
  show some (trimZ _) = some (addZ f g)
  unfold addZ padZ List.zip
  rw [List.map_zipWith]
theorem poly_plus_eq {f g : List Int} (tf : trimd f) (tg : trimd g) (lf : f.length ≤ 13) (lg : g.length ≤ 13) : y_poly_plus f g = some (.ok (addZ f g)) := by
  unfold y_poly_plus
  refine bstep (look_poly tf lf) (bstep (look_poly tg lg) ?_)
  exact bstep (added_eq (by omega) (by omega)) rfl
theorem poly_times_eq {f g : List Int} (M N : Nat) (tf : trimd f) (tg : trimd g) (lf : f.length ≤ 13) (lg : g.length ≤ 13) (hf : Bd M f) (hg : Bd N g) (hMN : M + N ≤ 134217728) : y_poly_times f g = some (.ok (mulZ f g)) := by
  unfold y_poly_times
  refine bstep (look_poly tf lf) (bstep (look_poly tg lg) ?_)
  exact bstep (multiplied_eq M N hf hg hMN (by omega) (by omega)) rfl
end AM

set_option Elab.async false
set_option linter.all false
set_option maxRecDepth 100000
set_option maxHeartbeats 1000000
set_option exponentiation.threshold 100
namespace AM
open PySem PySem.Spec PyProof.Rows L2
theorem okC_eq {τ : Type} {m : Option (Ex τ)} {t : τ} (h : m = some (.ok t)) : okC m = some t := by rw [h]; rfl
theorem pl_T {f : List Int} (h : f.length < 100000) : pl 12 (eT PyData.int f) := pl_ints 11 h
theorem pl_OT {o : Option (List Int)} (h : ∀ f, o = some f → f.length < 100000) : pl 12 (eO (eT PyData.int) o) := by
  cases o with
  | none => trivial
  | some f => exact pl_T (h f rfl)
theorem quot_len {f g q : List Int} (hg : trimd g) (g0 : g ≠ []) (e : quotZ f g = some q) : q.length ≤ f.length := by
  unfold quotZ at e
  split at e
  · rename_i h
    have hs := h.choose_spec
    cases e
    by_cases q0 : h.choose = []
    · rw [q0]; simp
    · have := mulZ_len hs.1 hg q0 g0
      rw [hs.2] at this
      have : 0 < g.length := List.length_pos_iff.mpr g0
      omega
  · cases e
theorem inn_scale (f : List Int) (c : Int) (hc : c ≠ 0) (hf : trimd f) : trimd (f.map (· * c)) := by
  rcases hf with rfl | ⟨r, x, hx, rfl⟩
  · exact .inl rfl
  · rw [List.map_append]; exact trimd_snoc (Int.mul_ne_zero hx hc)
theorem Bd.mulr {n m : Nat} {f : List Int} {c : Int} (h : Bd n f) (hc : c.natAbs < 2 ^ m) : Bd (n + m) (f.map (· * c)) := fun a ha => by
  obtain ⟨b, hb, rfl⟩ := List.mem_map.mp ha
  exact abs_mul_lt (h b hb) hc
theorem Bd.set {n : Nat} {f : List Int} {i : Nat} {x : Int} (h : Bd n f) (hx : x.natAbs < 2 ^ n) : Bd n (f.set i x) := fun a ha => by
  rcases List.mem_or_eq_of_mem_set ha with ha | rfl
  · exact h a ha
  · exact hx
theorem Bd.out {n m : Nat} {g : List Int} (hg : Bd m g) : ∀ (f acc : List Int) (i k : Nat), Bd n f → Bd (n + k * (m + 1)) acc → i + f.length + g.length ≤ acc.length + 1 ∨ f = [] → Bd (n + (k + f.length) * (m + 1)) (out acc i g f)
  | [], acc, i, k, _, hb, _ => hb
  | a :: f, acc, i, k, hf, hb, hl => by
    have hl := hl.resolve_right (List.cons_ne_nil _ _)
    rw [List.length_cons] at hl
    have h1 : Bd (n + k * (m + 1) + m + 1) (AM.inn acc i a g) := hb.inn (abs_lt_mono (hf a List.mem_cons_self) (by omega)) hg (by omega)
    have h2 := Bd.out hg f (AM.inn acc i a g) (i + 1) (k + 1) (fun x hx => hf x (List.mem_cons_of_mem _ hx)) (h1.mono (by rw [Nat.add_mul, Nat.one_mul]; omega)) (.inl (by rw [inn_len]; omega))
    refine h2.mono ?_
    rw [List.length_cons, show k + 1 + f.length = k + (f.length + 1) by omega]
    exact Nat.le_refl _
theorem Bd.mulZ {n m : Nat} {f g : List Int} (hf : Bd n f) (hg : Bd m g) : Bd (n + f.length * (m + 1)) (mulZ f g) := by
  have h := Bd.out hg f (List.replicate (f.length + g.length) 0) 0 0 hf (Bd.zeros _ _) (.inl (by rw [List.length_replicate]; omega))
  rw [Nat.zero_add] at h
  exact h.trim
theorem mulZ_le (f g : List Int) : (mulZ f g).length ≤ f.length + g.length := by
  unfold AM.mulZ
  refine Nat.le_trans (trimZ_len _) ?_
  rw [out_len, List.length_replicate]; exact Nat.le_refl _
theorem cut_tail (f : List Int) : cutZ f (some 1) none = f.tail := by
  unfold cutZ
  have e : HT.sIx f.length 0 (some 1) = min 1 f.length := by
    have := HT.sIx_nat (n := f.length) (d := 0) (k := 1)
    first | exact this | simpa using this | (rw [← this]; rfl)
  rw [e]
  have e2 : HT.sIx f.length f.length none = f.length := by first | rfl | exact HT.sIx_none ..
  rw [e2]
  cases f with
  | nil => rfl
  | cons a r => simp
theorem forC_all {α τ : Type} {bd : Unit → α → Option (Ctl Unit τ)} : ∀ {xs : List α}, (∀ x ∈ xs, bd () x = some (.nx ())) → forC bd xs () = some (.nx ())
  | [], _ => rfl
  | x :: r, h => bstep (h x List.mem_cons_self) (forC_all fun y hy => h y (List.mem_cons_of_mem _ hy))
theorem m_law_k06 (b : Bag) (ok : BagOk 100000 b) : y_law_k06 b = some (.nx ()) := by
  obtain ⟨t, et, ⟨tf, f0, lf, bf⟩, okf⟩ := poly_spec ok 6 (by decide) (by decide)
  obtain ⟨t1, et1, ⟨tg, g0, lg, bg⟩, okg⟩ := poly_spec okf 6 (by decide) (by decide)
  obtain ⟨t2, et2, hby, ok2⟩ := int_spec okg
  obtain ⟨t5, et5, h5, ok5⟩ := int_spec ok2
  generalize hf : t.1 = f at *
  generalize hg : t1.1 = g at *
  generalize hy : t2.1 = y at *
  have lf' : f.length ≤ 7 := by omega
  have lg' : g.length ≤ 7 := by omega
  have pf : 0 < f.length := List.length_pos_iff.mpr f0
  have pg : 0 < g.length := List.length_pos_iff.mpr g0
  have yb : y.natAbs < 2 ^ 20 := by omega
  have e4 : ∀ (f : List Int), f.length ≤ 7 → mapC (fun x1 => (Option.bind (mulC x1 y) fun t3 => some t3)) f = some (f.map (· * y)) := fun f hl => mapC_eq (g := (· * y)) (by omega) fun x _ => bstep (mulC_r (abs_lt_mono yb (by decide))) rfl
  obtain ⟨t6, et6, h6, ok6⟩ := take_spec ok5 ((f.map (· * y)).length : Int) (by omega) (by rw [List.length_map]; omega) (by rw [List.length_map]; omega)
  rw [List.length_map] at h6
  have e7 : setC (f.map (· * y)) t6.1 t5.1 = some ((f.map (· * y)).set t6.1.toNat t5.1) := setC_pos _ h6.1 (by rw [List.length_map]; omega)
  generalize hs : (f.map (· * y)).set t6.1.toNat t5.1 = sm at e7
  have bsm : Bd 40 sm := by rw [← hs]; exact (bf.mulr yb).set (by omega)
  have lsm : sm.length ≤ 7 := by rw [← hs, List.length_set, List.length_map]; omega
  have bfy : Bd 40 (f.map (· * y)) := bf.mulr yb
  -- plain
  have P : ∀ x : List Int, trimd x → x.length ≤ 7 → Bd 40 x → y_law_k06_b1 () x = some (.nx ()) := fun x tx lx bx => by
    unfold y_law_k06_b1
    refine bstep (okC_eq (plain_eq 40 tx (by omega) bx (by decide))) (bstep (law_plain_eq 40 tx bx (by decide) (by omega)) (bstep (sameC_refl (pl_T (by unfold plainZ; rw [List.length_map]; omega))) rfl))
  -- quotients
  have Qq : ∀ x y : List Int, trimd x → trimd y → y ≠ [] → x.length ≤ 13 → y.length ≤ 13 → Bd 250 x → Bd 200 y → okC (y_quotient x y) = some (quotZ x y) := fun x y tx ty y0 lx ly bx bY => okC_eq (quotient_eq tx ty y0 bx bY (by decide) lx ly (by decide))
  have Q : ∀ x y : List Int, trimd x → x.length ≤ 13 → y.length ≤ 13 → Bd 250 x → Bd 200 y → y_law_k06_b2 () (x, y) = some (.nx ()) := fun x y tx lx ly bx bY => by
    unfold y_law_k06_b2
    refine bstep (law_trim_eq _) ?_
    by_cases ht : trimd y ∧ y ≠ []
    · refine ite_t ?_ (bstep (Qq x y tx ht.1 ht.2 lx ly bx bY) (bstep (law_divided_eq (f := x) (g := y) tx ht.1 ht.2 bx bY (by decide) (by omega) (by omega) (by decide)) (bstep (sameC_refl (pl_OT fun q e => ?_)) rfl)))
      · show (decide (trimZ y = y) && !decide (y = [])) = true
        rw [trimZ_id ht.1]; simp [ht.2]
      · have := quot_len ht.1 ht.2 e; omega
    · refine ite_f ?_ rfl
      show (decide (trimZ y = y) && !decide (y = [])) = false
      by_cases e : trimZ y = y
      · have : trimd y := by rw [← e]; exact trimd_trimZ _
        have : y = [] := Classical.byContradiction fun z => ht ⟨this, z⟩
        subst this; simp
      · rw [decide_eq_false e]; rfl
  unfold y_law_k06
  refine bstep et (bstep et1 (bstep et2 ?_))
  rw [hf, hg, hy]
  refine bstep (e4 f lf') (bstep et5 (bstep et6 (bstep e7 ?_)))
  -- times a number
  have hx : ∃ x, (if (!decide (y = (0 : Int))) = true then (Option.bind (mapC (fun x2 => (Option.bind (mulC x2 y) fun t8 => some t8)) f) fun t9 => some t9) else (some [])) = some x ∧ trimd x ∧ x.length ≤ 7 ∧ Bd 40 x := by
    by_cases hz : y = 0
    · exact ⟨[], ite_f (by rw [decide_eq_true hz]; rfl) rfl, .inl rfl, by simp, Bd.nil _⟩
    · exact ⟨f.map (· * y), ite_t (by rw [decide_eq_false hz]; rfl) (bstep (e4 f lf') rfl), inn_scale f y hz tf, by rw [List.length_map]; exact lf', bfy⟩
  obtain ⟨x, ex, tx, lx, bx⟩ := hx
  have tl := trimZ_len sm
  refine bstep ex (bstep (law_trim_eq _) (bstep (forC_all fun z hz => ?_) ?_))
  · simp only [List.mem_cons, List.not_mem_nil, or_false] at hz
    rcases hz with rfl | rfl | rfl
    · exact P _ tf lf' (bf.mono (by decide))
    · exact P _ tx lx bx
    · exact P _ (trimd_trimZ _) (by show (trimZ sm).length ≤ 7; omega) bsm.trim
  have bw : Bd 200 (mulZ f g) := (bf.mulZ bg).mono (by have : f.length * 21 ≤ 7 * 21 := Nat.mul_le_mul_right _ lf'; omega)
  have tw := trimd_mul f g
  have lw := mulZ_len tf tg f0 g0
  have w0 := mulZ_ne tf tg f0 g0
  refine bstep (law_mul_eq 20 20 bf bg (by decide) (by omega) (by omega)) ?_
  refine bstep (show okC (y_quotient (mulZ f g) f) = some (some g) by rw [Qq _ _ tw tf f0 (by omega) (by omega) (bw.mono (by decide)) (bf.mono (by decide)), quot_some tf f0 tg (mulZ_comm g f)]) (bstep (sameC_refl (pl_T (by omega))) ?_)
  refine bstep (ite_f rfl (bstep (show okC (y_quotient (mulZ f g) g) = some (some f) by rw [Qq _ _ tw tg g0 (by omega) (by omega) (bw.mono (by decide)) (bg.mono (by decide)), quot_some tg g0 tf rfl]) (bstep (sameC_refl (pl_T (by omega))) rfl))) (ite_f rfl ?_)
  -- spoilt in one place
  obtain ⟨t21, e21, h21, ok21⟩ := take_spec ok6 ((mulZ f g).length : Int) (by omega) (by omega) (by omega)
  obtain ⟨v, ev1, hv, _⟩ := atI_pos (xs := mulZ f g) h21.1 h21.2
  obtain ⟨t23, e23, h23, ok23⟩ := take_spec ok21 2
  refine bstep e21 (bstep ev1 (bstep e23 (bstep (mulC_l (by decide)) (bstep (setC_pos _ h21.1 h21.2) (bstep (law_trim_eq _) (bstep (law_trim_eq _) ?_))))))
  rw [cut_tail]
  refine bstep (show catC [(2 : Int)] f.tail = some (2 :: f.tail) from if_pos (by rw [List.length_tail]; simp; omega)) (bstep (forC_all fun z hz => ?_) rfl)
  have vb := bw v hv
  have bn : Bd 201 ((mulZ f g).set t21.1.toNat (v + 1 - 2 * t23.1)) := (bw.mono (by decide)).set (by
    have : (1 - 2 * t23.1).natAbs < 2 ^ 200 := by
      have : (1 - 2 * t23.1).natAbs ≤ 1 := by omega
      have h2 : (1 : Nat) < 2 ^ 200 := by decide
      omega
    rw [show v + 1 - 2 * t23.1 = v + (1 - 2 * t23.1) by omega]
    exact abs_add_lt vb this)
  have tn := trimZ_len ((mulZ f g).set t21.1.toNat (v + 1 - 2 * t23.1))
  rw [List.length_set] at tn
  simp only [List.mem_cons, List.not_mem_nil, or_false] at hz
  rcases hz with rfl | rfl | rfl | rfl | rfl
  · exact Q _ _ tf (by omega) (by omega) (bf.mono (by decide)) (bg.mono (by decide))
  · exact Q _ _ (trimd_trimZ _) (by show (trimZ ((mulZ f g).set t21.1.toNat (v + 1 - 2 * t23.1))).length ≤ 13; omega) (by omega) (bn.trim.mono (by decide)) (bg.mono (by decide))
  · exact Q _ _ (trimd_trimZ _) (by show (trimZ sm).length ≤ 13; omega) (by omega) (bsm.trim.mono (by decide)) (bf.mono (by decide))
  · exact Q _ _ tf (by omega) (by simp) (bf.mono (by decide)) (fun a ha => by rw [List.mem_singleton] at ha; subst ha; exact abs_lt_mono yb (by decide))
  · refine Q _ _ tw (by omega) (by rw [List.length_cons, List.length_tail]; omega) (bw.mono (by decide)) (fun a ha => ?_)
    rcases List.mem_cons.mp ha with rfl | ha
    · decide
    · exact abs_lt_mono (bf a (List.mem_of_mem_tail ha)) (by decide)
end AM

set_option Elab.async false
set_option linter.all false
set_option maxRecDepth 100000
set_option maxHeartbeats 1000000
set_option exponentiation.threshold 2000
namespace AM
open PySem PySem.Spec PyProof.Rows L2 SX
theorem dig_ascii : ∀ c, c < 128 → Unicode.isDigit c = (decide (48 ≤ c) && decide (c ≤ 57)) := by decide +kernel
def Asc (l : List Nat) : Prop := ∀ c ∈ l, c < 128
def dgs (l : List Nat) : Bool := l.all fun c => decide (48 ≤ c) && decide (c ≤ 57)
theorem isdigit_S {l : List Nat} (h : Asc l) : Txt.isdigit (S l) = (decide (0 < l.length) && dgs l) := by
  unfold Txt.isdigit dgs
  rw [S_len]
  congr 1
  show (l.toArray).all Unicode.isDigit = _
  rw [List.all_toArray]
  induction l with
  | nil => rfl
  | cons a r ih => simp only [List.all_cons]; rw [dig_ascii a (h a (by simp)), ih fun c hc => h c (by simp [hc])]
theorem lt_minus : ("-" : Str) = S [45] := by decide +kernel
theorem lt_plus : ("+" : Str) = S [43] := by decide +kernel
theorem lt_x : ("x" : Str) = S [120] := by decide +kernel
theorem lt_hat : ("^" : Str) = S [94] := by decide +kernel
theorem lt_xhat : ("x^" : Str) = S [120, 94] := by decide +kernel
theorem lt_nil : ("" : Str) = S [] := by decide +kernel
theorem lt_0 : ("0" : Str) = S [48] := by decide +kernel
theorem lt_1 : ("1" : Str) = S [49] := by decide +kernel
theorem lt_pm : ("+-" : Str) = S [43, 45] := by decide +kernel
theorem S_eq {a b : List Nat} : (S a = S b) ↔ a = b := ⟨S_inj, fun h => by rw [h]⟩
theorem dec_S (a b : List Nat) : decide (S a = S b) = decide (a = b) := by
  by_cases h : a = b
  · rw [decide_eq_true h, decide_eq_true (S_eq.mpr h)]
  · rw [decide_eq_false h, decide_eq_false fun z => h (S_inj z)]
theorem starts_S (l : List Nat) (c : Nat) : Txt.startswith (S l) (S [c]) = (l.head? == some c) := by
  cases l with
  | nil => rfl
  | cons a r =>
    show (decide (0 + 1 ≤ (S (a :: r)).length) && Builtin.Str.subAt (S (a :: r)) (S [c]) 0) = _
    rw [S_len, decide_eq_true (by simp), Bool.true_and]
    simp [Builtin.Str.subAt, S]
    show ((a :: r).take 1 == [c]) = (a == c)
    simp
theorem catS_S {a b : List Nat} (h : a.length + b.length ≤ 100000) : catS (S a) (S b) = some (S (a ++ b)) := by
  unfold catS
  rw [S_len, S_len, if_pos h, S_cat]
theorem fitS_S {a : List Nat} (h : a.length ≤ 100000) : fitS (S a) = some (S a) := if_pos (by rw [S_len]; exact h)
theorem lenS_S {a : List Nat} (h : a.length ≤ 100000) : lenS (S a) = some (a.length : Int) := by
  unfold lenS
  rw [S_len, if_pos h]
theorem slS_1 {a : List Nat} (h : a.length ≤ 100000) : slS (S a) (some 1) none = some (S a.tail) := by
  unfold slS
  rw [S_len, if_pos h, C8.cutS_slice, slice_from (by decide)]
  simp
theorem strC_S {n : Nat} (h : n < 2 ^ 1900) : strC (n : Int) = some (S (TL.numL n)) := by
  unfold strC
  rw [num_S, if_pos]
  have : ((n : Int)).natAbs = n := by simp
  rw [this]
  by_cases h0 : n = 0
  · subst h0; decide
  · exact Nat.lt_of_lt_of_le ((Nat.log2_lt h0).mpr h) (by decide)
def wholeL (w : List Nat) : Option Int :=
  if (1 ≤ (if w.head? = some 45 then w.tail else w).length ∧ (if w.head? = some 45 then w.tail else w).length ≤ 400) ∧ dgs (if w.head? = some 45 then w.tail else w) = true ∧ ¬ ((if w.head? = some 45 then w.tail else w).head? = some 48 ∧ w ≠ [48]) then
    some (if w.head? = some 45 then -((NumText.digitsVal w.tail : Nat) : Int) else ((NumText.digitsVal w : Nat) : Int)) else none
theorem all_dg {l : List Nat} (h : dgs l = true) : NumText.AllDigits l := fun c hc => by
  have := List.all_eq_true.mp h c hc
  rwa [Bool.and_eq_true, decide_eq_true_eq, decide_eq_true_eq] at this
theorem whole_eq {w : List Nat} (ha : Asc w) (hl : w.length ≤ 1000) : y_whole_from (S w) = some (wholeL w) := by
  unfold y_whole_from
  rw [lt_minus, starts_S]
  have key : ∀ fg : List Nat, Asc fg → fg.length ≤ 1000 → (∀ n, (1 ≤ fg.length ∧ fg.length ≤ 400) → dgs fg = true → n = (if w.head? = some 45 then -((NumText.digitsVal w.tail : Nat) : Int) else ((NumText.digitsVal w : Nat) : Int)) → intC (S w) = some n) → fg = (if w.head? = some 45 then w.tail else w) →
      (Option.bind (lenS (S fg)) fun t2 => if ((!(decide ((1 : Int) ≤ t2) && decide (t2 ≤ (400 : Int)))) || ((!(Txt.isdigit (S fg))) || ((Txt.startswith (S fg) ("0" : Str)) && (!decide (S w = ("0" : Str)))))) = true then some none else Option.bind (intC (S w)) fun t3 => some (some t3)) = some (wholeL w) := fun fg hf hlf hn e => by
    refine bstep (lenS_S (by omega)) ?_
    rw [lt_0, starts_S, dec_S, isdigit_S hf]
    by_cases h1 : 1 ≤ fg.length ∧ fg.length ≤ 400
    · by_cases h2 : dgs fg = true
      · by_cases h3 : fg.head? = some 48 ∧ w ≠ [48]
        · rw [show wholeL w = none by unfold wholeL; rw [← e]; exact if_neg fun z => z.2.2 h3]
          refine ite_t ?_ rfl
          rw [h3.1, decide_eq_false h3.2]
          simp
        · rw [show wholeL w = some (if w.head? = some 45 then -((NumText.digitsVal w.tail : Nat) : Int) else ((NumText.digitsVal w : Nat) : Int)) by unfold wholeL; rw [← e]; exact if_pos ⟨h1, h2, h3⟩]
          refine ite_f ?_ (bstep (hn _ h1 h2 rfl) rfl)
          rw [h2, decide_eq_true (show (1 : Int) ≤ (fg.length : Int) by omega), decide_eq_true (show (fg.length : Int) ≤ 400 by omega), decide_eq_true (show 0 < fg.length by omega)]
          by_cases h4 : w = [48]
          · rw [decide_eq_true h4]; simp
          · have h5 : ¬ fg.head? = some 48 := fun z => h3 ⟨z, h4⟩
            have : (fg.head? == some 48) = false := by simpa using h5
            rw [this]; simp
      · rw [show wholeL w = none by unfold wholeL; rw [← e]; exact if_neg fun z => h2 z.2.1]
        refine ite_t ?_ rfl
        have : dgs fg = false := by simpa using h2
        rw [this]; simp
    · rw [show wholeL w = none by unfold wholeL; rw [← e]; exact if_neg fun z => h1 z.1]
      refine ite_t ?_ rfl
      have : (decide ((1 : Int) ≤ (fg.length : Int)) && decide ((fg.length : Int) ≤ 400)) = false := by
        by_cases h2 : 1 ≤ fg.length
        · rw [decide_eq_false (show ¬ (fg.length : Int) ≤ 400 by omega), Bool.and_false]
        · rw [decide_eq_false (show ¬ (1 : Int) ≤ (fg.length : Int) by omega), Bool.false_and]
      rw [this]; simp
  by_cases h : w.head? = some 45
  · refine bstep (x := S w.tail) (ite_t (by rw [h]; rfl) (bstep (slS_1 (by omega)) rfl)) (key w.tail (fun c hc => ha c (List.mem_of_mem_tail hc)) (by rw [List.length_tail]; omega) (fun n hn hd e => ?_) (by rw [if_pos h]))
    rw [if_pos h] at e
    have ew : w = 45 :: w.tail := by
      cases w with
      | nil => cases h
      | cons a r => simp at h; subst h; rfl
    have hz : w.length ≤ 401 := by rw [List.length_tail] at hn; omega
    unfold intC
    rw [S_len, if_pos (by omega), e]
    exact intText_neg (x := S w) ew (all_dg hd) (fun z => by rw [z] at hn; simp at hn) (by rw [S_len]; omega)
  · refine bstep (x := S w) (ite_f (by simpa using h) rfl) (key w ha hl (fun n hn hd e => ?_) (by rw [if_neg h]))
    rw [if_neg h] at e
    unfold intC
    rw [S_len, if_pos (by omega), e]
    exact int_S hd (fun z => by rw [z] at hn; simp at hn) (by omega)
theorem pre1 (c a : Nat) (r : List Nat) : TL.pre [c] (a :: r) = decide (a = c) := by
  unfold TL.pre
  show ((a :: r).take 1 == [c]) = _
  by_cases h : a = c <;> simp [h]
theorem par_app : ∀ {p acc h t : List Nat}, TL.par [120] acc p = some (h, t) → acc ++ p = h ++ 120 :: t
  | [], acc, h, t, e => by cases e
  | c :: r, acc, h, t, e => by
    by_cases hc : c = 120
    · subst hc
      rw [TL.par_hit (by rw [pre1]; simp)] at e
      cases e
      simp
    · rw [TL.par_miss (by rw [pre1, decide_eq_false hc])] at e
      have := par_app e
      rw [← this]
      simp
def powL (t : List Nat) : Option Int := if t = [] then some 1 else if t.head? = some 94 then wholeL t.tail else none
def headL (h : List Nat) : List Nat := if h = [] ∨ h = [45] then h ++ [49] else h
def both (a b : Option Int) : Option (Int × Int) := match a, b with
  | some n, some k => if 0 ≤ k ∧ k ≤ 12 then some (n, k) else none
  | _, _ => none
def termP (p : List Nat) : Option (Int × Int) := match TL.par [120] [] p with
  | none => both (wholeL p) (some 0)
  | some (h, t) => both (wholeL (headL h)) (powL t)
theorem both_eq (t3 j : Option Int) : (Option.bind (if t3.isNone = true then some true else (Option.bind (if j.isNone = true then some true else (Option.bind (j) fun t7 => some (!(decide ((0 : Int) ≤ t7) && decide (t7 ≤ (12 : Int)))))) fun t8 => some t8)) fun t9 =>
    if t9 = true then some none else Option.bind (t3) fun t10 => Option.bind (j) fun t11 => some (some (t10, t11))) = some (both t3 j) := by
  cases t3 with
  | none => rfl
  | some n =>
    cases j with
    | none => rfl
    | some k =>
      refine bstep (ite_f rfl (bstep (ite_f rfl (bstep rfl rfl)) rfl)) ?_
      by_cases h : 0 ≤ k ∧ k ≤ 12
      · rw [show both (some n) (some k) = some (n, k) from if_pos h]
        exact ite_f (by rw [decide_eq_true h.1, decide_eq_true h.2]; rfl) rfl
      · rw [show both (some n) (some k) = none from if_neg h]
        refine ite_t ?_ rfl
        by_cases h1 : 0 ≤ k
        · have h2 : ¬ k ≤ 12 := fun z => h ⟨h1, z⟩
          rw [decide_eq_false h2]; simp
        · rw [decide_eq_false h1]; rfl
theorem term_eq {p : List Nat} (ha : Asc p) (hl : p.length ≤ 900) : y_term_from (S p) = some (termP p) := by
  unfold y_term_from
  have e0 : partC (S p) (S [120]) = some (Txt.partition (S p) (S [120])) := if_pos ⟨by rw [S_len]; omega, rfl⟩
  rw [lt_x, lt_nil, lt_minus, lt_hat, lt_1]
  cases hp : TL.par [120] [] p with
  | none =>
    rw [show termP p = both (wholeL p) (some 0) by unfold termP; rw [hp]]
    rw [partition_none (by decide) hp] at e0
    refine bstep e0 (bstep (x := S p) (ite_f ?_ rfl) (bstep (whole_eq ha (by omega)) (bstep (x := some 0) (congrArg some (if_pos ?_)) (bstep (x := some 0) (ite_f ?_ rfl) (both_eq _ _)))))
    · rw [show decide ((S p, S [], S []).2.1 = S [120]) = false from (dec_S [] [120]).trans rfl, Bool.and_false]
    · exact (dec_S [] []).trans rfl
    · rw [show decide ((S p, S [], S []).2.2 = S []) = true from (dec_S [] []).trans rfl]; rfl
  | some ht =>
    obtain ⟨h, t⟩ := ht
    rw [show termP p = both (wholeL (headL h)) (powL t) by unfold termP; rw [hp]]
    rw [partition_some (by decide) hp] at e0
    have e := par_app hp
    rw [List.nil_append] at e
    have ah : Asc h := fun c hc => ha c (by rw [e]; simp [hc])
    have at' : Asc t := fun c hc => ha c (by rw [e]; simp [hc])
    have lh : h.length + t.length + 1 ≤ 900 := by rw [e] at hl; simp at hl; omega
    have ahd : Asc (headL h) := fun c hc => by
      unfold headL at hc
      split at hc
      · rcases List.mem_append.mp hc with z | z
        · exact ah c z
        · rw [List.mem_singleton] at z; omega
      · exact ah c hc
    have lhd : (headL h).length ≤ 1000 := by unfold headL; split <;> (first | (rw [List.length_append, List.length_singleton]; omega) | omega)
    refine bstep e0 (bstep (x := S (headL h)) ?_ (bstep (whole_eq ahd lhd) (bstep (x := some 1) (congrArg some (if_neg ?_)) (bstep (x := powL t) ?_ (both_eq _ _)))))
    · show (if (decide (S h ∈ [S [], S [45]]) && decide (S [120] = S [120])) = true then (Option.bind (catS (S h) (S [49])) fun t1 => some t1) else some (S h)) = _
      unfold headL
      by_cases hh : h = [] ∨ h = [45]
      · rw [if_pos hh]
        refine ite_t ?_ (bstep (catS_S (by simp; omega)) rfl)
        rw [decide_eq_true (show S [120] = S [120] from rfl), Bool.and_true]
        refine decide_eq_true ?_
        rcases hh with rfl | rfl <;> simp
      · rw [if_neg hh]
        refine ite_f ?_ rfl
        rw [decide_eq_false, Bool.false_and]
        intro z
        simp only [List.mem_cons, List.not_mem_nil, or_false] at z
        rcases z with z | z
        · exact hh (.inl (S_inj z))
        · exact hh (.inr (S_inj z))
    · show ¬ decide (S [120] = S []) = true
      rw [dec_S]; decide
    · show (if (!decide (S t = S [])) = true then (Option.bind (if (Txt.startswith (S t) (S [94])) = true then (Option.bind (slS (S t) (some (1 : Int)) none) fun t4 => Option.bind (y_whole_from t4) fun t5 => some t5) else (some none)) fun t6 => some t6) else some (some 1)) = _
      unfold powL
      rw [dec_S, starts_S]
      by_cases ht : t = []
      · rw [if_pos ht]; exact ite_f (by rw [decide_eq_true ht]; rfl) rfl
      · rw [if_neg ht]
        refine ite_t (by rw [decide_eq_false ht]; rfl) ?_
        by_cases hc : t.head? = some 94
        · rw [if_pos hc]
          exact bstep (ite_t (by rw [hc]; rfl) (bstep (slS_1 (by omega)) (bstep (whole_eq (fun c hc => at' c (List.mem_of_mem_tail hc)) (by rw [List.length_tail]; omega)) rfl))) rfl
        · rw [if_neg hc]
          exact bstep (ite_f (by simpa using hc) rfl) rfl
def cuts : List Nat → List Nat → List (List Nat)
  | acc, [] => [acc]
  | acc, c :: r => if c = 43 then acc :: cuts [] r else if c = 45 then acc :: cuts [45] r else cuts (acc ++ [c]) r
theorem cuts_eq : ∀ (l acc : List Nat), TL.spl [43] 0 acc (StrLaws.replL [45] [43, 45] l) = cuts acc l
  | [], acc => by rw [StrLaws.replL_nil]; rfl
  | c :: r, acc => by
    by_cases h : c = 45
    · subst h
      rw [StrLaws.replL_hit (by decide) (by simp)]
      show TL.spl [43] 0 acc (43 :: 45 :: StrLaws.replL [45] [43, 45] r) = _
      rw [TL.spl_hit (by rw [pre1]; simp)]
      show acc :: TL.spl [43] 0 [] (45 :: StrLaws.replL [45] [43, 45] r) = _
      rw [TL.spl_miss (by rw [pre1]; simp), cuts_eq r]
      rfl
    · rw [StrLaws.replL_miss (by simpa using h)]
      by_cases h2 : c = 43
      · subst h2
        rw [TL.spl_hit (by rw [pre1]; simp)]
        show acc :: TL.spl [43] 0 [] _ = _
        rw [cuts_eq r]
        rfl
      · rw [TL.spl_miss (by rw [pre1, decide_eq_false h2]), cuts_eq r]
        show _ = if c = 43 then _ else _
        rw [if_neg h2, if_neg h]
theorem cuts_mem : ∀ (l acc : List Nat) (n : Nat), Asc acc → Asc l → acc.length + l.length ≤ n → ∀ p ∈ cuts acc l, Asc p ∧ p.length ≤ n
  | [], acc, n, h1, h2, hn, p, hp => by
    simp only [cuts, List.mem_singleton] at hp
    subst hp
    exact ⟨h1, by simp at hn; omega⟩
  | c :: r, acc, n, h1, h2, hn, p, hp => by
    have hr : Asc r := fun d hd => h2 d (by simp [hd])
    have hc := h2 c (by simp)
    simp only [List.length_cons] at hn
    simp only [cuts] at hp
    split at hp
    · rcases List.mem_cons.mp hp with rfl | hp
      · exact ⟨h1, by omega⟩
      · exact cuts_mem r [] n (fun _ h => by cases h) hr (by simp; omega) p hp
    · split at hp
      · rcases List.mem_cons.mp hp with rfl | hp
        · exact ⟨h1, by omega⟩
        · exact cuts_mem r [45] n (fun d h => by rw [List.mem_singleton] at h; omega) hr (by simp; omega) p hp
      · exact cuts_mem r (acc ++ [c]) n (fun d h => by
          rcases List.mem_append.mp h with h | h
          · exact h1 d h
          · rw [List.mem_singleton] at h; omega) hr (by simp; omega) p hp
theorem parts_eq {w : List Nat} (hl : w.length ≤ 800) : (Option.bind (replC (S w) "-" "+-") fun t1 => splitC t1 ("+" : Str)) = some ((cuts [] w).map S) := by
  rw [lt_minus, lt_pm, lt_plus]
  have e1 : Txt.replace (S w) (S [45]) (S [43, 45]) = S (StrLaws.replL [45] [43, 45] w) := TL.ext_tl (StrLaws.replace_list (x := S w) (y := S [45]) (z := S [43, 45]) (by decide))
  have hz : (S w).length + ((S w).length + 1) * (S [43, 45]).length ≤ 100000 := by
    rw [S_len, S_len]
    show w.length + (w.length + 1) * 2 ≤ 100000
    omega
  have hz2 := TK.replace_len (S w) (S [45]) (S [43, 45])
  refine bstep (x := Txt.replace (S w) (S [45]) (S [43, 45])) (if_pos hz) ?_
  refine (if_pos (show _ ∧ _ from ⟨Nat.le_trans hz2 hz, rfl⟩)).trans ?_
  rw [e1, split_S (by decide) (by decide), cuts_eq]
end AM

set_option Elab.async false
set_option linter.all false
set_option maxRecDepth 100000
set_option maxHeartbeats 1000000
set_option exponentiation.threshold 2000
namespace AM
open PySem PySem.Spec PyProof.Rows L2 SX
def bodyL (a : Int) (k : Nat) : List Nat := (if k = 0 ∨ a.natAbs ≠ 1 then TL.numL a.natAbs else []) ++ (if k = 0 then [] else if k = 1 then [120] else [120, 94] ++ TL.numL k)
def markL (a : Int) (first : Bool) : List Nat := if a < 0 then [45] else if first = true then [] else [43]
def txt (f : List Int) : Nat → List Nat → List Nat
  | 0, acc => acc
  | k + 1, acc => txt f k (if f.getD k 0 = 0 then acc else acc ++ (markL (f.getD k 0) (decide (acc = [])) ++ bodyL (f.getD k 0) k))
def pTxt (f : List Int) : List Nat := if txt f f.length [] = [] then [48] else txt f f.length []
theorem body_len {a : Int} {k : Nat} (ha : a.natAbs < 10 ^ 400) (hk : k < 100) : (bodyL a k).length ≤ 404 := by
  unfold bodyL
  have h1 := TL.numL_len (n := a.natAbs) (k := 400) (by decide) ha
  have h2 := TL.numL_len (n := k) (k := 2) (by decide) hk
  rw [List.length_append]
  have : (if k = 0 ∨ a.natAbs ≠ 1 then TL.numL a.natAbs else []).length ≤ 400 := by split <;> (first | omega | simp)
  have : (if k = 0 then ([] : List Nat) else if k = 1 then [120] else [120, 94] ++ TL.numL k).length ≤ 4 := by
    split
    · simp
    · split
      · simp
      · simp; omega
  omega
theorem mark_len (a : Int) (first : Bool) : (markL a first).length ≤ 1 := by unfold markL; split <;> (try split) <;> simp
theorem body_ne (a : Int) (k : Nat) : bodyL a k ≠ [] := by
  unfold bodyL
  intro z
  obtain ⟨z1, z2⟩ := List.append_eq_nil_iff.mp z
  by_cases h : k = 0
  · rw [if_pos (.inl h)] at z1; exact TL.numL_ne _ z1
  · rw [if_neg h] at z2
    split at z2 <;> simp at z2
theorem empty_S : Str.empty = S [] := by first | rfl | decide +kernel
theorem join2 {a b : List Nat} (h : a.length + b.length ≤ 100000) : joinC Str.empty [S a, S b] = some (S (a ++ b)) := by
  rw [empty_S]
  refine bstep (catS_S (by simp; omega)) (bstep (catS_S (by simp; omega)) ?_)
  simp [joinC]
theorem join3 {a b c : List Nat} (h : a.length + b.length + c.length ≤ 100000) : joinC Str.empty [S a, S b, S c] = some (S (a ++ b ++ c)) := by
  rw [empty_S]
  refine bstep (catS_S (by simp; omega)) (bstep (catS_S (by simp; omega)) (bstep (catS_S (by simp; omega)) ?_))
  simp [joinC]
theorem join4 {a b c d : List Nat} (h : a.length + b.length + c.length + d.length ≤ 100000) : joinC Str.empty [S a, S b, S c, S d] = some (S (a ++ b ++ c ++ d)) := by
  rw [empty_S]
  refine bstep (catS_S (by simp; omega)) (bstep (catS_S (by simp; omega)) (bstep (catS_S (by simp; omega)) (bstep (catS_S (by simp; omega)) ?_)))
  simp [joinC]
theorem p400 : (10 : Nat) ^ 400 < 2 ^ 1900 := by decide +kernel
theorem term_text_eq {a : Int} {k : Nat} {first : Bool} (ha : a.natAbs < 10 ^ 400) (hk : k < 100) : y_term_text a (k : Int) first = some (S (markL a first ++ bodyL a k)) := by
  have sa := strC_S (n := a.natAbs) (Nat.lt_trans ha p400)
  have sk := strC_S (n := k) (Nat.lt_trans hk (by decide +kernel))
  have la := TL.numL_len (n := a.natAbs) (k := 400) (by decide) ha
  have lk := TL.numL_len (n := k) (k := 2) (by decide) hk
  have lm := mark_len a first
  unfold y_term_text
  rw [lt_minus, lt_nil, lt_plus, lt_x, lt_xhat]
  have em : (if (decide (a < (0 : Int))) = true then S [45] else (if first = true then S [] else S [43])) = S (markL a first) := by
    unfold markL
    by_cases h : a < 0
    · rw [if_pos (decide_eq_true h), if_pos h]
    · rw [if_neg (by rw [decide_eq_false h]; decide), if_neg h]
      cases first <;> rfl
  generalize hm : markL a first = mk at em lm
  generalize hn : (if k = 0 ∨ a.natAbs ≠ 1 then TL.numL a.natAbs else []) = nm
  have ln : nm.length ≤ 400 := by rw [← hn]; split <;> (first | omega | simp)
  have e1 : (if ((decide ((k : Int) = (0 : Int))) || (!decide ((a.natAbs : Int) = (1 : Int)))) = true then (Option.bind (strC (a.natAbs : Int)) fun t => some t) else (some (S []))) = some (S nm) := by
    rw [← hn]
    by_cases h : k = 0 ∨ a.natAbs ≠ 1
    · rw [if_pos h]
      refine ite_t ?_ (bstep sa rfl)
      rcases h with h | h
      · rw [decide_eq_true (show (k : Int) = 0 by omega)]; rfl
      · rw [decide_eq_false (show ¬ (a.natAbs : Int) = 1 by omega)]; simp
    · rw [if_neg h]
      refine ite_f ?_ rfl
      have h1 : ¬ (k : Int) = 0 := fun z => h (.inl (by omega))
      have h2 : (a.natAbs : Int) = 1 := by
        apply Classical.byContradiction
        intro z
        exact h (.inr fun y => z (by omega))
      rw [decide_eq_false h1, decide_eq_true h2]; rfl
  refine bstep (congrArg some em) (bstep e1 ?_)
  have f1 := fitS_S (a := mk) (by omega)
  have f2 := fitS_S (a := nm) (by omega)
  unfold bodyL
  rw [hn]
  by_cases h0 : k = 0
  · subst h0
    refine ite_t rfl (bstep f1 (bstep f2 (bstep (join2 (by omega)) ?_)))
    simp
  · refine ite_f (decide_eq_false (by omega)) ?_
    by_cases h1 : k = 1
    · subst h1
      refine bstep (ite_t rfl (bstep f1 (bstep f2 (bstep (join3 (by simp; omega)) rfl)))) ?_
      simp
    · refine bstep (ite_f (decide_eq_false (by omega)) (bstep f1 (bstep f2 (bstep sk (bstep (join4 (by simp; omega)) rfl))))) ?_
      simp [h0, h1]
theorem rngD_step (k : Nat) : rngD (((k + 1 : Nat) : Int) - 1) (k + 1) = (k : Int) :: rngD ((k : Int) - 1) k := by
  unfold rngD
  rw [List.range_succ_eq_map, List.map_cons, List.map_map]
  congr 1
  · show ((k + 1 : Nat) : Int) - 1 - ((0 : Nat) : Int) = _; omega
  · refine List.map_congr_left fun i _ => ?_
    show ((k + 1 : Nat) : Int) - 1 - ((i + 1 : Nat) : Int) = (k : Int) - 1 - (i : Int)
    omega
theorem atI_D {f : List Int} {k : Nat} (h : k < f.length) : atI f (k : Int) = some (f.getD k 0) := by
  rw [atI_nat' h]; simp [List.getD, h]
def Cf (f : List Int) : Prop := ∀ a ∈ f, a.natAbs < 10 ^ 400
theorem Cf.get {f : List Int} (h : Cf f) {k : Nat} (hk : k < f.length) : (f.getD k 0).natAbs < 10 ^ 400 := by
  have : f.getD k 0 = f[k] := by simp [List.getD, hk]
  rw [this]; exact h _ (List.getElem_mem _)
theorem text_loop {f : List Int} (hf : Cf f) (hl : f.length ≤ 13) : ∀ (k : Nat) (acc : List Nat), k ≤ f.length → acc.length + 405 * k ≤ 10000 → forO (y_poly_text_b1 f) (rngD ((k : Int) - 1) k) (S acc) = some (S (txt f k acc))
  | 0, acc, _, _ => rfl
  | k + 1, acc, hk, hz => by
    rw [rngD_step]
    have hc := hf.get (show k < f.length by omega)
    have hb := body_len hc (show k < 100 by omega)
    have hm := mark_len (f.getD k 0) (decide (acc = []))
    have ih := fun acc' h => text_loop hf hl k acc' (by omega) h
    unfold txt
    by_cases h : f.getD k 0 = 0
    · rw [if_pos h]
      refine bstep (x := S acc) ?_ (ih acc (by omega))
      unfold y_poly_text_b1
      exact bstep (atI_D (by omega)) (ite_f (by rw [decide_eq_true h]; rfl) rfl)
    · rw [if_neg h]
      refine bstep (x := S (acc ++ (markL (f.getD k 0) (decide (acc = [])) ++ bodyL (f.getD k 0) k))) ?_ (ih _ (by simp only [List.length_append]; omega))
      unfold y_poly_text_b1
      refine bstep (atI_D (by omega)) (ite_t (by rw [decide_eq_false h]; rfl) (bstep (atI_D (by omega)) ?_))
      rw [lt_nil, dec_S]
      exact bstep (term_text_eq hc (by omega)) (bstep (catS_S (by simp only [List.length_append]; omega)) rfl)
theorem poly_text_eq {f : List Int} (hf : Cf f) (hl : f.length ≤ 13) : y_poly_text f = some (S (pTxt f)) := by
  unfold y_poly_text
  have e : rng3 ((f.length : Int) - 1) ((0 : Int) - 1) = some (rngD ((f.length : Int) - 1) f.length) := by
    unfold rng3
    rw [if_pos ⟨⟨by omega, by omega⟩, by decide, by decide⟩, show ((f.length : Int) - 1 - (0 - 1)).toNat = f.length by omega]
  rw [lt_nil, lt_0]
  refine bstep rfl (bstep (show y_degree_of f = some ((f.length : Int) - 1) from rfl) (bstep e (bstep (text_loop hf hl f.length [] (Nat.le_refl _) (by simp; omega)) ?_)))
  congr 1
  unfold pTxt
  rw [dec_S]
  by_cases h : txt f f.length [] = []
  · rw [if_pos (decide_eq_true h), if_pos h]
  · rw [if_neg (by rw [decide_eq_false h]; decide), if_neg h]
def ltx (f : List Int) : Nat → List Nat → List Nat
  | 0, acc => acc
  | k + 1, acc => ltx f k (if f.getD k 0 = 0 then acc else acc ++ (markL (f.getD k 0) false ++ bodyL (f.getD k 0) k))
theorem num_one (n : Nat) : TL.numL n = [49] ↔ n = 1 := ⟨fun h => TL.numL_inj (h.trans (by decide +kernel)), fun h => by subst h; decide +kernel⟩
theorem law_loop_t {f : List Int} (hf : Cf f) (hl : f.length ≤ 13) : ∀ (k : Nat) (acc : List Nat), k ≤ f.length → acc.length + 405 * k ≤ 10000 → forO (y__law_poly_text_b1 f) (rngD ((k : Int) - 1) k) (S acc) = some (S (ltx f k acc))
  | 0, acc, _, _ => rfl
  | k + 1, acc, hk, hz => by
    rw [rngD_step]
    have hc := hf.get (show k < f.length by omega)
    have hb := body_len hc (show k < 100 by omega)
    have hm := mark_len (f.getD k 0) false
    have ih := fun acc' h => law_loop_t hf hl k acc' (by omega) h
    unfold ltx
    by_cases h : f.getD k 0 = 0
    · rw [if_pos h]
      refine bstep (x := S acc) ?_ (ih acc (by omega))
      unfold y__law_poly_text_b1
      exact bstep (atI_D (by omega)) (ite_f (by rw [decide_eq_true h]; rfl) rfl)
    · rw [if_neg h]
      refine bstep (x := S (acc ++ (markL (f.getD k 0) false ++ bodyL (f.getD k 0) k))) ?_ (ih _ (by simp only [List.length_append]; omega))
      have sa := strC_S (n := (f.getD k 0).natAbs) (Nat.lt_trans hc p400)
      have sk := strC_S (n := k) (Nat.lt_trans (show k < 100 by omega) (by decide +kernel))
      have la := TL.numL_len (n := (f.getD k 0).natAbs) (k := 400) (by decide) hc
      have lk := TL.numL_len (n := k) (k := 2) (by decide) (show k < 10 ^ 2 by omega)
      have at1 := atI_D (f := f) (show k < f.length by omega)
      unfold y__law_poly_text_b1
      rw [lt_minus, lt_nil, lt_plus, lt_x, lt_xhat, lt_1]
      generalize f.getD k 0 = a at h hc hb hm sa la at1
      have em : (if (decide (a < (0 : Int))) = true then S [45] else S [43]) = S (markL a false) := by
        unfold markL
        by_cases h : a < 0
        · rw [if_pos (decide_eq_true h), if_pos h]
        · rw [if_neg (by rw [decide_eq_false h]; decide), if_neg h]; rfl
      generalize hmk : markL a false = mk at em hm
      generalize hn : (if k = 0 ∨ a.natAbs ≠ 1 then TL.numL a.natAbs else []) = nm
      have ln : nm.length ≤ 400 := by rw [← hn]; split <;> (first | omega | simp)
      have e1 : (if ((decide ((0 : Int) < (k : Int))) && (decide (S (TL.numL a.natAbs) = S [49]))) = true then (Option.bind (some (S [])) fun v_many => some v_many) else (some (S (TL.numL a.natAbs)))) = some (S nm) := by
        rw [← hn, dec_S]
        by_cases h : k = 0 ∨ a.natAbs ≠ 1
        · rw [if_pos h]
          refine ite_f ?_ rfl
          rcases h with h | h
          · rw [decide_eq_false (show ¬ (0 : Int) < (k : Int) by omega)]; rfl
          · rw [decide_eq_false fun z => h ((num_one _).mp z), Bool.and_false]
        · rw [if_neg h]
          have h1 : 0 < k := by
            apply Classical.byContradiction
            intro z
            exact h (.inl (by omega))
          have h2 : a.natAbs = 1 := by
            apply Classical.byContradiction
            intro z
            exact h (.inr z)
          exact ite_t (by rw [decide_eq_true (show (0 : Int) < (k : Int) by omega), decide_eq_true ((num_one _).mpr h2)]; rfl) rfl
      have e9 : atI [S [], S [120], S ([120, 94] ++ TL.numL k)] (min (k : Int) 2) = some (S (if k = 0 then [] else if k = 1 then [120] else [120, 94] ++ TL.numL k)) := by
        by_cases h0 : k = 0
        · subst h0; rfl
        · by_cases h1 : k = 1
          · subst h1; rfl
          · rw [if_neg h0, if_neg h1, show min (k : Int) 2 = 2 by omega]; rfl
      have l9 : (if k = 0 then ([] : List Nat) else if k = 1 then [120] else [120, 94] ++ TL.numL k).length ≤ 4 := by
        split
        · simp
        · split
          · simp
          · simp; omega
      have eb : bodyL a k = nm ++ (if k = 0 then [] else if k = 1 then [120] else [120, 94] ++ TL.numL k) := by unfold bodyL; rw [hn]
      rw [eb]
      refine bstep at1 (ite_t (by rw [decide_eq_false h]; rfl) (bstep at1 (bstep (congrArg some em) (bstep at1 (bstep sa (bstep e1 (bstep (catS_S (by omega)) (bstep (catS_S (by simp only [List.length_append]; omega)) (bstep sk (bstep (catS_S (by simp; omega)) (bstep e9 (bstep (catS_S (by simp only [List.length_append]; omega)) ?_))))))))))))
      simp only [List.append_assoc]
theorem along (f : List Int) : ∀ (k : Nat) (acc : List Nat), (acc ≠ [] → ∀ m, ltx f k (m ++ acc) = m ++ txt f k acc) ∧ (acc = [] → (txt f k [] = [] ∧ ltx f k [] = []) ∨ (txt f k [] ≠ [] ∧ ((∃ r, txt f k [] = 45 :: r ∧ ltx f k [] = 45 :: r) ∨ (ltx f k [] = 43 :: txt f k []))))
  | 0, acc => ⟨fun _ m => rfl, fun _ => .inl ⟨rfl, rfl⟩⟩
  | k + 1, acc => by
    refine ⟨fun h m => ?_, fun h => ?_⟩
    · show ltx f k _ = m ++ txt f k _
      by_cases h0 : f.getD k 0 = 0
      · rw [if_pos h0, if_pos h0]; exact (along f k acc).1 h m
      · rw [if_neg h0, if_neg h0, decide_eq_false h, List.append_assoc]
        exact (along f k _).1 (fun z => h (List.append_eq_nil_iff.mp z).1) m
    · subst h
      show (txt f k _ = [] ∧ ltx f k _ = []) ∨ (txt f k _ ≠ [] ∧ ((∃ r, txt f k _ = 45 :: r ∧ ltx f k _ = 45 :: r) ∨ ltx f k _ = 43 :: txt f k _))
      by_cases h0 : f.getD k 0 = 0
      · simp only [if_pos h0]; exact (along f k []).2 rfl
      · simp only [if_neg h0, List.nil_append, decide_true]
        have bn := body_ne (f.getD k 0) k
        have sub : ∀ (k : Nat) (acc : List Nat), acc ≠ [] → ∃ r, txt f k acc = acc ++ r := fun k => by
          induction k with
          | zero => exact fun acc _ => ⟨[], by simp [txt]⟩
          | succ k ih =>
            intro acc ha
            show ∃ r, txt f k _ = _
            by_cases h1 : f.getD k 0 = 0
            · rw [if_pos h1]; exact ih acc ha
            · rw [if_neg h1]
              obtain ⟨r, e⟩ := ih (acc ++ (markL (f.getD k 0) (decide (acc = [])) ++ bodyL (f.getD k 0) k)) fun z => ha (List.append_eq_nil_iff.mp z).1
              exact ⟨_, by rw [e, List.append_assoc]⟩
        by_cases hn : f.getD k 0 < 0
        · have e1 : markL (f.getD k 0) true = [45] := if_pos hn
          have e2 : markL (f.getD k 0) false = [45] := if_pos hn
          rw [e1, e2]
          have := (along f k ([45] ++ bodyL (f.getD k 0) k)).1 (by simp) []
          obtain ⟨r, er⟩ := sub k ([45] ++ bodyL (f.getD k 0) k) (by simp)
          refine .inr ⟨by rw [er]; simp, .inl ⟨bodyL (f.getD k 0) k ++ r, by rw [er]; simp, ?_⟩⟩
          rw [List.nil_append] at this
          rw [this, List.nil_append, er]; simp
        · have e1 : markL (f.getD k 0) true = [] := by unfold markL; rw [if_neg hn]; rfl
          have e2 : markL (f.getD k 0) false = [43] := by unfold markL; rw [if_neg hn]; rfl
          rw [e1, e2, List.nil_append]
          have := (along f k (bodyL (f.getD k 0) k)).1 bn [43]
          obtain ⟨r, er⟩ := sub k (bodyL (f.getD k 0) k) bn
          exact .inr ⟨fun z => bn (List.append_eq_nil_iff.mp (er.symm.trans z)).1, .inr this⟩
theorem law_text_eq {f : List Int} (hf : Cf f) (hl : f.length ≤ 13) : y__law_poly_text f = some (S (pTxt f)) := by
  unfold y__law_poly_text
  have e : rng3 ((f.length : Int) - 1) (-(1 : Int)) = some (rngD ((f.length : Int) - 1) f.length) := by
    unfold rng3
    rw [if_pos ⟨⟨by omega, by omega⟩, by decide, by decide⟩, show ((f.length : Int) - 1 - -1).toNat = f.length by omega]
  rw [lt_nil, lt_0, lt_plus]
  have A := (along f f.length []).2 rfl
  have lt : (ltx f f.length []).length ≤ 10000 := by
    have : ∀ (k : Nat) (acc : List Nat), k ≤ f.length → (ltx f k acc).length ≤ acc.length + 405 * k := fun k => by
      induction k with
      | zero => exact fun acc _ => by simp [ltx]
      | succ k ih =>
        intro acc hk
        have hc := hf.get (show k < f.length by omega)
        have hb := body_len hc (show k < 100 by omega)
        have hm := mark_len (f.getD k 0) false
        show (ltx f k _).length ≤ _
        by_cases h1 : f.getD k 0 = 0
        · rw [if_pos h1]; have := ih acc (by omega); omega
        · rw [if_neg h1]
          have := ih (acc ++ (markL (f.getD k 0) false ++ bodyL (f.getD k 0) k)) (by omega)
          simp only [List.length_append] at this
          omega
    have := this f.length [] (Nat.le_refl _)
    simp at this
    omega
  refine bstep rfl (bstep e (bstep (law_loop_t hf hl f.length [] (Nat.le_refl _) (by simp; omega)) ?_))
  rw [dec_S]
  unfold pTxt
  rcases A with ⟨a1, a2⟩ | ⟨a1, ⟨r, a2, a3⟩ | a2⟩
  · rw [if_pos a1, a2]; exact ite_t rfl rfl
  · rw [if_neg a1, a2, a3]
    exact ite_f (by simp) (bstep (x := S [45]) rfl (bstep (ite_f (by rw [dec_S]; simp) rfl) rfl))
  · rw [if_neg a1, a2]
    rw [a2] at lt
    exact ite_f (by simp) (bstep (x := S [43]) rfl (bstep (ite_t (by rw [dec_S]; simp) (bstep (slS_1 (by omega)) rfl)) rfl))
end AM

set_option Elab.async false
set_option linter.all false
set_option maxRecDepth 100000
set_option maxHeartbeats 1000000
set_option exponentiation.threshold 2000
namespace AM
open PySem PySem.Spec PyProof.Rows L2 SX
theorem num_head : ∀ (n : Nat), 1 ≤ n → (TL.numL n).head? ≠ some 48 := by
  intro n
  induction n using Nat.strongRecOn with
  | _ n ih =>
    intro h
    by_cases hn : n < 10
    · rw [TL.numL_lt hn]; simp; omega
    · rw [TL.numL_step (by omega)]
      have := ih (n / 10) (by omega) (by omega)
      have ne := TL.numL_ne (n / 10)
      cases hc : TL.numL (n / 10) with
      | nil => exact absurd hc ne
      | cons a r => rw [hc] at this; simpa using this
theorem num_dgs (n : Nat) : dgs (TL.numL n) = true := List.all_eq_true.mpr fun c hc => by
  have := TL.numL_digits n c hc
  rw [decide_eq_true this.1, decide_eq_true this.2]; rfl
theorem num_free (n c : Nat) (h : c < 48 ∨ 57 < c) : (TL.numL n).head? ≠ some c := fun z => by
  cases hc : TL.numL n with
  | nil => rw [hc] at z; cases z
  | cons a r =>
    have := TL.numL_digits n a (by rw [hc]; simp)
    rw [hc] at z
    simp at z
    omega
theorem num_len0 (n : Nat) : 1 ≤ (TL.numL n).length := by
  have := TL.numL_ne n
  cases h : TL.numL n with
  | nil => exact absurd h this
  | cons a r => simp
theorem whole_num {n : Nat} (h : n < 10 ^ 400) : wholeL (TL.numL n) = some (n : Int) := by
  have h1 : ¬ (TL.numL n).head? = some 45 := num_free n 45 (by omega)
  unfold wholeL
  simp only [if_neg h1]
  rw [if_pos, TL.numL_val]
  refine ⟨⟨num_len0 n, TL.numL_len (by decide) h⟩, num_dgs n, fun z => ?_⟩
  by_cases h0 : n = 0
  · subst h0; exact z.2 (by decide +kernel)
  · exact num_head n (by omega) z.1
theorem whole_neg {n : Nat} (h : n < 10 ^ 400) (h0 : 1 ≤ n) : wholeL (45 :: TL.numL n) = some (-(n : Int)) := by
  have h1 : (45 :: TL.numL n).head? = some 45 := rfl
  unfold wholeL
  simp only [if_pos h1, List.tail_cons]
  rw [if_pos, TL.numL_val]
  exact ⟨⟨num_len0 n, TL.numL_len (by decide) h⟩, num_dgs n, fun z => num_head n h0 z.1⟩
def sgnL (a : Int) : List Nat := if a < 0 then [45] else []
theorem whole_sgn {a : Int} (h : a.natAbs < 10 ^ 400) (a0 : a ≠ 0) : wholeL (sgnL a ++ TL.numL a.natAbs) = some a := by
  unfold sgnL
  by_cases hn : a < 0
  · rw [if_pos hn]
    refine (whole_neg h (by omega)).trans ?_
    congr 1; omega
  · rw [if_neg hn, List.nil_append, whole_num h]
    congr 1; omega
theorem term_back {a : Int} {k : Nat} (h : a.natAbs < 10 ^ 400) (a0 : a ≠ 0) (hk : k ≤ 12) : termP (sgnL a ++ bodyL a k) = some (a, (k : Int)) := by
  have fs : 120 ∉ sgnL a := by unfold sgnL; split <;> simp
  have fn : 120 ∉ TL.numL a.natAbs := TL.numL_free (by omega)
  have hb : both (some a) (some (k : Int)) = some (a, (k : Int)) := if_pos ⟨by omega, by omega⟩
  unfold termP bodyL
  by_cases h0 : k = 0
  · subst h0
    rw [if_pos (.inl rfl), if_pos rfl, List.append_nil, par_head_none (c := 120) (sep := []) (by simp [fs, fn])]
    show both (wholeL _) (some 0) = _
    rw [whole_sgn h a0]; exact hb
  · generalize hnm : (if k = 0 ∨ a.natAbs ≠ 1 then TL.numL a.natAbs else []) = nm
    have hh : headL (sgnL a ++ nm) = sgnL a ++ TL.numL a.natAbs := by
      rw [← hnm]
      by_cases h1 : a.natAbs = 1
      · rw [if_neg (by intro z; rcases z with z | z; exact h0 z; exact z h1), List.append_nil, h1]
        have : TL.numL 1 = [49] := by decide +kernel
        rw [this]
        unfold headL sgnL
        split <;> simp
      · rw [if_pos (.inr h1)]
        unfold headL
        rw [if_neg]
        have := num_len0 a.natAbs
        have ne := TL.numL_ne a.natAbs
        rintro (z | z)
        · exact ne (List.append_eq_nil_iff.mp z).2
        · unfold sgnL at z
          split at z
          · simp at z; exact ne z
          · rw [List.nil_append] at z
            exact num_free a.natAbs 45 (by omega) (by rw [z]; rfl)
    have fm : 120 ∉ sgnL a ++ nm := by
      rw [← hnm]
      split <;> simp [fs, fn]
    rw [if_neg h0, ← List.append_assoc]
    have key : ∀ t : List Nat, powL t = some (k : Int) → (match TL.par [120] [] (sgnL a ++ nm ++ (120 :: t)) with
        | none => both (wholeL (sgnL a ++ nm ++ (120 :: t))) (some 0)
        | some (h, t) => both (wholeL (headL h)) (powL t)) = some (a, (k : Int)) := fun t ht => by
      have := par_head (c := 120) (sep := []) t fm
      have e : TL.par [120] [] (sgnL a ++ nm ++ (120 :: t)) = some (sgnL a ++ nm, t) := this
      rw [e]
      show both (wholeL (headL (sgnL a ++ nm))) (powL t) = _
      rw [hh, whole_sgn h a0, ht]
      exact hb
    by_cases h1 : k = 1
    · rw [if_pos h1]
      exact key [] (by subst h1; rfl)
    · rw [if_neg h1]
      refine key (94 :: TL.numL k) ?_
      unfold powL
      rw [if_neg (by simp), if_pos (show (94 :: TL.numL k).head? = some 94 from rfl), List.tail_cons]
      exact whole_num (Nat.lt_of_le_of_lt hk (by decide +kernel))
def rsT (f : List Int) : Nat → List Nat
  | 0 => []
  | k + 1 => (if f.getD k 0 = 0 then [] else markL (f.getD k 0) false ++ bodyL (f.getD k 0) k) ++ rsT f k
def prt (f : List Int) : Nat → List (List Nat)
  | 0 => []
  | k + 1 => (if f.getD k 0 = 0 then [] else [sgnL (f.getD k 0) ++ bodyL (f.getD k 0) k]) ++ prt f k
theorem txt_rs (f : List Int) : ∀ (k : Nat) (acc : List Nat), acc ≠ [] → txt f k acc = acc ++ rsT f k
  | 0, acc, _ => by simp [txt, rsT]
  | k + 1, acc, h => by
    simp only [txt, rsT]
    by_cases h0 : f.getD k 0 = 0
    · rw [if_pos h0, if_pos h0, List.nil_append]; exact txt_rs f k acc h
    · rw [if_neg h0, if_neg h0, txt_rs f k _ (fun z => h (List.append_eq_nil_iff.mp z).1), decide_eq_false h, List.append_assoc]
theorem cuts_free : ∀ (b acc r : List Nat), (43 ∉ b ∧ 45 ∉ b) → cuts acc (b ++ r) = cuts (acc ++ b) r
  | [], acc, r, _ => by simp
  | c :: b, acc, r, h => by
    have h1 : c ≠ 43 := fun z => h.1 (by simp [z])
    have h2 : c ≠ 45 := fun z => h.2 (by simp [z])
    show (if c = 43 then _ else if c = 45 then _ else cuts (acc ++ [c]) (b ++ r)) = _
    rw [if_neg h1, if_neg h2, cuts_free b _ r ⟨fun z => h.1 (by simp [z]), fun z => h.2 (by simp [z])⟩]
    simp
theorem body_free (a : Int) (k : Nat) : 43 ∉ bodyL a k ∧ 45 ∉ bodyL a k := by
  have key : ∀ c, c = 43 ∨ c = 45 → c ∉ bodyL a k := fun c hc => by
    have f1 : c ∉ TL.numL a.natAbs := TL.numL_free (by omega)
    have f2 : c ∉ TL.numL k := TL.numL_free (by omega)
    unfold bodyL
    rw [List.mem_append]
    rintro (z | z)
    · split at z
      · exact f1 z
      · cases z
    · split at z
      · cases z
      · split at z
        · rw [List.mem_singleton] at z; omega
        · rcases List.mem_append.mp z with z | z
          · simp at z; omega
          · exact f2 z
  exact ⟨key 43 (.inl rfl), key 45 (.inr rfl)⟩
theorem cuts_rs (f : List Int) : ∀ (k : Nat) (acc : List Nat), cuts acc (rsT f k) = acc :: prt f k
  | 0, acc => rfl
  | k + 1, acc => by
    simp only [rsT, prt]
    by_cases h0 : f.getD k 0 = 0
    · rw [if_pos h0, if_pos h0]; exact cuts_rs f k acc
    · rw [if_neg h0, if_neg h0]
      have bf := body_free (f.getD k 0) k
      by_cases hn : f.getD k 0 < 0
      · rw [show markL (f.getD k 0) false = [45] from if_pos hn, show sgnL (f.getD k 0) = [45] from if_pos hn, List.append_assoc]
        show acc :: cuts [45] (bodyL (f.getD k 0) k ++ rsT f k) = _
        rw [cuts_free _ _ _ bf, cuts_rs f k]; rfl
      · rw [show markL (f.getD k 0) false = [43] by unfold markL; rw [if_neg hn]; rfl, show sgnL (f.getD k 0) = [] from if_neg hn, List.append_assoc]
        show acc :: cuts [] (bodyL (f.getD k 0) k ++ rsT f k) = _
        rw [cuts_free _ _ _ bf, cuts_rs f k]; rfl
theorem cuts_txt (f : List Int) : ∀ k : Nat, (txt f k [] = [] ∧ prt f k = []) ∨ (txt f k [] ≠ [] ∧ (cuts [] (txt f k []) = prt f k ∨ cuts [] (txt f k []) = [] :: prt f k))
  | 0 => .inl ⟨rfl, rfl⟩
  | k + 1 => by
    simp only [txt, prt]
    by_cases h0 : f.getD k 0 = 0
    · simp only [if_pos h0, List.nil_append]; exact cuts_txt f k
    · simp only [if_neg h0, List.nil_append, decide_true]
      have bf := body_free (f.getD k 0) k
      have bn := body_ne (f.getD k 0) k
      have ne : markL (f.getD k 0) true ++ bodyL (f.getD k 0) k ≠ [] := fun z => bn (List.append_eq_nil_iff.mp z).2
      rw [txt_rs f k _ ne]
      refine .inr ⟨fun z => ne (List.append_eq_nil_iff.mp z).1, ?_⟩
      by_cases hn : f.getD k 0 < 0
      · rw [show markL (f.getD k 0) true = [45] from if_pos hn, show sgnL (f.getD k 0) = [45] from if_pos hn, List.append_assoc]
        refine .inr ?_
        show [] :: cuts [45] (bodyL (f.getD k 0) k ++ rsT f k) = _
        rw [cuts_free _ _ _ bf, cuts_rs f k]; rfl
      · rw [show markL (f.getD k 0) true = [] by unfold markL; rw [if_neg hn]; rfl, show sgnL (f.getD k 0) = [] from if_neg hn, List.nil_append, cuts_free _ _ _ bf, cuts_rs f k]
        exact .inl rfl
end AM

set_option Elab.async false
set_option linter.all false
set_option maxRecDepth 100000
set_option maxHeartbeats 1000000
set_option exponentiation.threshold 2000
namespace AM
open PySem PySem.Spec PyProof.Rows L2 SX
theorem val_lt : ∀ (l : List Nat) (a : Nat), NumText.AllDigits l → l.foldl (fun acc c => acc * 10 + (c - 48)) a + 1 ≤ (a + 1) * 10 ^ l.length
  | [], a, _ => by simp
  | c :: r, a, h => by
    have hc := h c (by simp)
    have ih := val_lt r (a * 10 + (c - 48)) fun d hd => h d (by simp [hd])
    simp only [List.foldl_cons, List.length_cons, Nat.pow_succ]
    refine Nat.le_trans ih ?_
    rw [Nat.mul_comm (10 ^ r.length) 10, ← Nat.mul_assoc]
    exact Nat.mul_le_mul_right _ (by omega)
theorem whole_lt {w : List Nat} {n : Int} (h : wholeL w = some n) : n.natAbs < 10 ^ 400 := by
  have key : ∀ l : List Nat, l.length ≤ 400 → dgs l = true → NumText.digitsVal l < 10 ^ 400 := fun l hl hd => by
    have := val_lt l 0 (all_dg hd)
    have h2 := Nat.pow_le_pow_right (n := 10) (by decide) hl
    unfold NumText.digitsVal
    omega
  unfold wholeL at h
  by_cases hh : w.head? = some 45
  · simp only [if_pos hh] at h
    split at h
    · rename_i hc
      have := key w.tail hc.1.2 hc.2.1
      have h := Option.some.inj h
      omega
    · cases h
  · simp only [if_neg hh] at h
    split at h
    · rename_i hc
      have := key w hc.1.2 hc.2.1
      have h := Option.some.inj h
      omega
    · cases h
theorem term_rng {p : List Nat} {n k : Int} (h : termP p = some (n, k)) : n.natAbs < 10 ^ 400 ∧ 0 ≤ k ∧ k ≤ 12 := by
  have key : ∀ (a b : Option Int), (∀ n, a = some n → n.natAbs < 10 ^ 400) → both a b = some (n, k) → n.natAbs < 10 ^ 400 ∧ 0 ≤ k ∧ k ≤ 12 := fun a b ha hb => by
    cases a with
    | none => cases hb
    | some x =>
      cases b with
      | none => cases hb
      | some y =>
        unfold both at hb
        simp only at hb
        split at hb
        · rename_i hy
          cases hb
          exact ⟨ha _ rfl, hy⟩
        · cases hb
  unfold termP at h
  split at h
  · exact key _ _ (fun n hn => whole_lt hn) h
  · exact key _ _ (fun n hn => whole_lt hn) h
def rowL : List (List Nat) → List Int → Option (List Int)
  | [], r => some r
  | p :: ps, r => if p = [] then rowL ps r else match termP p with
    | none => none
    | some q => rowL ps (r.set q.2.toNat q.1)
theorem Cf.set {f : List Int} (h : Cf f) {i : Nat} {a : Int} (ha : a.natAbs < 10 ^ 400) : Cf (f.set i a) := fun x hx => by
  rcases List.mem_or_eq_of_mem_set hx with h1 | h1
  · exact h x h1
  · rw [h1]; exact ha
theorem loop_eq : ∀ (ps : List (List Nat)) (r : List Int), (∀ p ∈ ps, Asc p ∧ p.length ≤ 900) → r.length = 13 → Cf r → (rowL ps r = none ∧ forC y_poly_from_b1 (ps.map S) r = some (.rt none)) ∨ ∃ r', rowL ps r = some r' ∧ forC y_poly_from_b1 (ps.map S) r = some (.nx r') ∧ r'.length = 13 ∧ Cf r'
  | [], r, _, hl, hc => .inr ⟨r, rfl, rfl, hl, hc⟩
  | p :: ps, r, hp, hl, hc => by
    have hps := fun q hq => hp q (List.mem_cons_of_mem _ hq)
    have h1 := hp p (by simp)
    have step : ∀ r2, y_poly_from_b1 r (S p) = some (.nx r2) → forC y_poly_from_b1 ((p :: ps).map S) r = forC y_poly_from_b1 (ps.map S) r2 := fun r2 h => by
      show (y_poly_from_b1 r (S p)).bind _ = _
      rw [h]; rfl
    by_cases h0 : p = []
    · have e : y_poly_from_b1 r (S p) = some (.nx r) := by
        unfold y_poly_from_b1
        rw [lt_nil, dec_S]
        exact ite_f (by rw [decide_eq_true h0]; rfl) rfl
      rw [step r e, show rowL (p :: ps) r = rowL ps r from if_pos h0]
      exact loop_eq ps r hps hl hc
    · have e0 : rowL (p :: ps) r = match termP p with
        | none => none
        | some q => rowL ps (r.set q.2.toNat q.1) := if_neg h0
      rw [e0]
      cases ht : termP p with
      | none =>
        refine .inl ⟨rfl, ?_⟩
        have e : y_poly_from_b1 r (S p) = some (.rt none) := by
          unfold y_poly_from_b1
          rw [lt_nil, dec_S]
          refine ite_t (by rw [decide_eq_false h0]; rfl) (bstep (term_eq h1.1 h1.2) ?_)
          rw [ht]
          exact ite_t rfl rfl
        show (y_poly_from_b1 r (S p)).bind _ = _
        rw [e]; rfl
      | some q =>
        obtain ⟨n, k⟩ := q
        have hr := term_rng ht
        have es : setC r k n = some (r.set k.toNat n) := by
          have := setC_nat (xs := r) (i := k.toNat) n (by omega)
          rwa [show ((k.toNat : Nat) : Int) = k by omega] at this
        have e : y_poly_from_b1 r (S p) = some (.nx (r.set k.toNat n)) := by
          unfold y_poly_from_b1
          rw [lt_nil, dec_S]
          refine ite_t (by rw [decide_eq_false h0]; rfl) (bstep (term_eq h1.1 h1.2) ?_)
          rw [ht]
          exact ite_f rfl (bstep rfl (bstep rfl (bstep es rfl)))
        rw [step _ e]
        exact loop_eq ps _ hps (by rw [List.length_set]; exact hl) (hc.set hr.1)
def polyL (w : List Nat) : Option (List Int) := match rowL (cuts [] w) (List.replicate 13 0) with
  | none => none
  | some r => if pTxt (trimZ r) = w then some (trimZ r) else none
theorem poly_from_eq {w : List Nat} (ha : Asc w) (hl : w.length ≤ 800) : y_poly_from (S w) = some (polyL w) ∧ ∀ g, polyL w = some g → Cf g ∧ g.length ≤ 13 ∧ trimd g ∧ pTxt g = w := by
  obtain ⟨t1, e1, e2⟩ := bs (parts_eq hl)
  have er : repL [(0 : Int)] ((12 : Int) + 1) = some (List.replicate 13 0) := by decide +kernel
  have hm := cuts_mem w [] 800 (fun _ h => by cases h) ha (by simpa using hl)
  have L := loop_eq (cuts [] w) (List.replicate 13 0) (fun p hp => ⟨(hm p hp).1, by have := (hm p hp).2; omega⟩) (by simp) fun a h => by rw [(List.mem_replicate.mp h).2]; decide +kernel
  unfold y_poly_from
  rcases L with ⟨l1, l2⟩ | ⟨r, l1, l2, l3, l4⟩
  · have : polyL w = none := by unfold polyL; rw [l1]
    rw [this]
    exact ⟨bstep er (bstep e1 (bstep e2 (bstep l2 rfl))), fun g h => by cases h⟩
  · have hl' : (trimZ r).length ≤ 13 := Nat.le_trans (trimZ_len r) (by omega)
    have hc : Cf (trimZ r) := fun a h => l4 a (trimZ_mem h)
    have e : polyL w = if pTxt (trimZ r) = w then some (trimZ r) else none := by unfold polyL; rw [l1]
    refine ⟨bstep er (bstep e1 (bstep e2 (bstep l2 (bstep (trimmed_eq r) (bstep (poly_text_eq hc hl') ?_))))), fun g hg => ?_⟩
    · rw [e, dec_S]
      by_cases h : pTxt (trimZ r) = w
      · rw [if_pos h, if_pos (decide_eq_true h)]
      · rw [if_neg h, if_neg (by rw [decide_eq_false h]; decide)]
    · rw [e] at hg
      split at hg
      · rename_i h
        cases hg
        exact ⟨hc, hl', trimd_trimZ r, h⟩
      · cases hg
def readL (w : List Nat) : Ex (List Int) := match polyL w with
  | none => .ex .NoText
  | some g => .ok g
theorem read_eq {w : List Nat} (ha : Asc w) (hl : w.length ≤ 800) : y_read_poly (S w) = some (readL w) := by
  unfold y_read_poly readL
  refine bstep (poly_from_eq ha hl).1 ?_
  cases polyL w with
  | none => rfl
  | some g => rfl
def setA (f : List Int) : Nat → List Int → List Int
  | 0, r => r
  | k + 1, r => setA f k (if f.getD k 0 = 0 then r else r.set k (f.getD k 0))
theorem row_prt {f : List Int} (hf : Cf f) (hl : f.length ≤ 13) : ∀ (k : Nat) (r : List Int), k ≤ f.length → rowL (prt f k) r = some (setA f k r)
  | 0, r, _ => rfl
  | k + 1, r, hk => by
    simp only [prt, setA]
    by_cases h0 : f.getD k 0 = 0
    · rw [if_pos h0, if_pos h0, List.nil_append]; exact row_prt hf hl k r (by omega)
    · rw [if_neg h0, if_neg h0]
      have bn := body_ne (f.getD k 0) k
      show (if sgnL (f.getD k 0) ++ bodyL (f.getD k 0) k = [] then _ else match termP (sgnL (f.getD k 0) ++ bodyL (f.getD k 0) k) with | none => none | some q => rowL (prt f k) (r.set q.2.toNat q.1)) = _
      rw [if_neg fun z => bn (List.append_eq_nil_iff.mp z).2, term_back (hf.get (by omega)) h0 (by omega)]
      exact row_prt hf hl k _ (by omega)
theorem setA_len (f : List Int) : ∀ (k : Nat) (r : List Int), (setA f k r).length = r.length
  | 0, r => rfl
  | k + 1, r => by
    simp only [setA]
    rw [setA_len f k]
    split
    · rfl
    · rw [List.length_set]
theorem setA_get (f : List Int) : ∀ (k : Nat) (r : List Int) (i : Nat), k ≤ r.length → (setA f k r).getD i 0 = if i < k then (if f.getD i 0 = 0 then r.getD i 0 else f.getD i 0) else r.getD i 0
  | 0, r, i, _ => by simp [setA]
  | k + 1, r, i, hk => by
    simp only [setA]
    by_cases h0 : f.getD k 0 = 0
    · rw [if_pos h0, setA_get f k r i (by omega)]
      by_cases h1 : i < k
      · rw [if_pos h1, if_pos (show i < k + 1 by omega)]
      · rw [if_neg h1]
        by_cases h2 : i = k
        · subst h2; rw [if_pos (show i < i + 1 by omega), if_pos h0]
        · rw [if_neg (show ¬ i < k + 1 by omega)]
    · rw [if_neg h0, setA_get f k _ i (by rw [List.length_set]; omega)]
      by_cases h2 : i = k
      · subst h2
        rw [if_neg (show ¬ i < i by omega), if_pos (show i < i + 1 by omega), if_neg h0]
        simp [List.getD, show i < r.length by omega]
      · have e : (r.set k (f.getD k 0)).getD i 0 = r.getD i 0 := by
          simp only [List.getD]
          rw [List.getElem?_set_ne (fun z => h2 z.symm)]
        rw [e]
        by_cases h1 : i < k
        · rw [if_pos h1, if_pos (show i < k + 1 by omega)]
        · rw [if_neg h1, if_neg (show ¬ i < k + 1 by omega)]
theorem back {f : List Int} (tf : trimd f) (hf : Cf f) (hl : f.length ≤ 13) : polyL (pTxt f) = some f := by
  by_cases f0 : f = []
  · subst f0; decide +kernel
  have hz : (List.replicate 13 (0 : Int)).length = 13 := by simp
  have hr := row_prt hf hl f.length (List.replicate 13 0) (Nat.le_refl _)
  have et : trimZ (setA f f.length (List.replicate 13 0)) = f := by
    have e : setA f f.length (List.replicate 13 0) = f ++ List.replicate (13 - f.length) 0 := by
      apply List.ext_getElem
      · rw [setA_len]; simp; omega
      · intro i h1 h2
        have g := setA_get f f.length (List.replicate 13 0) i (by rw [hz]; exact hl)
        rw [setA_len, hz] at h1
        have ge : (setA f f.length (List.replicate 13 0)).getD i 0 = (setA f f.length (List.replicate 13 0))[i]'(by rw [setA_len, hz]; exact h1) := by simp [List.getD, setA_len, h1]
        rw [← ge, g]
        by_cases hi : i < f.length
        · rw [if_pos hi, List.getElem_append_left hi]
          have : f.getD i 0 = f[i] := by simp [List.getD, hi]
          rw [this]
          split
          · rename_i hh; simp only [List.getD_eq_getElem?_getD, List.getElem?_replicate, if_pos h1, Option.getD_some]; exact hh.symm
          · rfl
        · rw [if_neg hi, List.getElem_append_right (by omega)]
          rw [List.getElem_replicate]
          simp only [List.getD_eq_getElem?_getD, List.getElem?_replicate, if_pos h1, Option.getD_some]
    rw [e, trimZ_eq (g := f) fun x => by rw [ev_app, ev_zeros]; omega, trimZ_id tf]
  have np : prt f f.length ≠ [] := by
    rcases tf with h | ⟨r, x, hx, h⟩
    · exact absurd h f0
    · subst h
      rw [List.length_append, List.length_singleton]
      show (if (r ++ [x]).getD r.length 0 = 0 then _ else _) ++ _ ≠ []
      have : (r ++ [x]).getD r.length 0 = x := by simp [List.getD]
      rw [if_neg (by rw [this]; exact hx)]
      simp
  rcases cuts_txt f f.length with ⟨_, h⟩ | ⟨h1, h2⟩
  · exact absurd h np
  · have ep : pTxt f = txt f f.length [] := if_neg h1
    have er : rowL (cuts [] (pTxt f)) (List.replicate 13 0) = some (setA f f.length (List.replicate 13 0)) := by
      rw [ep]
      rcases h2 with h2 | h2
      · rw [h2]; exact hr
      · rw [h2]; exact hr
    unfold polyL
    rw [er]
    show (if pTxt (trimZ _) = _ then some (trimZ _) else none) = _
    rw [et, if_pos rfl]
theorem body_asc (a : Int) (k : Nat) : Asc (bodyL a k) := fun c hc => by
  unfold bodyL at hc
  rcases List.mem_append.mp hc with z | z
  · split at z
    · have := TL.numL_digits _ c z; omega
    · cases z
  · split at z
    · cases z
    · split at z
      · rw [List.mem_singleton] at z; omega
      · rcases List.mem_append.mp z with z | z
        · simp at z; omega
        · have := TL.numL_digits _ c z; omega
theorem mark_asc (a : Int) (b : Bool) : Asc (markL a b) := fun c hc => by
  unfold markL at hc
  split at hc
  · rw [List.mem_singleton] at hc; omega
  · split at hc
    · cases hc
    · rw [List.mem_singleton] at hc; omega
theorem body_len16 {a : Int} {k : Nat} (ha : a.natAbs < 10 ^ 16) (hk : k < 100) : (bodyL a k).length ≤ 20 := by
  unfold bodyL
  have h1 := TL.numL_len (n := a.natAbs) (k := 16) (by decide) ha
  have h2 := TL.numL_len (n := k) (k := 2) (by decide) hk
  rw [List.length_append]
  have : (if k = 0 ∨ a.natAbs ≠ 1 then TL.numL a.natAbs else []).length ≤ 16 := by split <;> (first | omega | simp)
  have : (if k = 0 then ([] : List Nat) else if k = 1 then [120] else [120, 94] ++ TL.numL k).length ≤ 4 := by
    split
    · simp
    · split
      · simp
      · simp; omega
  omega
theorem txt_ok {f : List Int} (h16 : ∀ a ∈ f, a.natAbs < 10 ^ 16) (hl : f.length ≤ 13) : ∀ (k : Nat) (acc : List Nat), k ≤ f.length → Asc acc → Asc (txt f k acc) ∧ (txt f k acc).length ≤ acc.length + 21 * k
  | 0, acc, _, h => ⟨h, by simp [txt]⟩
  | k + 1, acc, hk, h => by
    simp only [txt]
    by_cases h0 : f.getD k 0 = 0
    · rw [if_pos h0]
      have := txt_ok h16 hl k acc (by omega) h
      exact ⟨this.1, by omega⟩
    · rw [if_neg h0]
      have hm := mark_len (f.getD k 0) (decide (acc = []))
      have e : f.getD k 0 = f[k] := by simp [List.getD, show k < f.length by omega]
      have hb := body_len16 (a := f.getD k 0) (k := k) (by rw [e]; exact h16 _ (List.getElem_mem _)) (by omega)
      have := txt_ok h16 hl k (acc ++ (markL (f.getD k 0) (decide (acc = [])) ++ bodyL (f.getD k 0) k)) (by omega) fun c hc => by
        rcases List.mem_append.mp hc with z | z
        · exact h c z
        · rcases List.mem_append.mp z with z | z
          · exact mark_asc _ _ c z
          · exact body_asc _ _ c z
      simp only [List.length_append] at this
      exact ⟨this.1, by omega⟩
theorem pTxt_ok {f : List Int} (h16 : ∀ a ∈ f, a.natAbs < 10 ^ 16) (hl : f.length ≤ 13) : Asc (pTxt f) ∧ (pTxt f).length ≤ 300 := by
  have := txt_ok h16 hl f.length [] (Nat.le_refl _) (fun _ h => by cases h)
  unfold pTxt
  split
  · exact ⟨fun c h => by rw [List.mem_singleton] at h; omega, by simp⟩
  · simp at this; exact ⟨this.1, by omega⟩
def okT (x : Str) : Prop := Asc x.cps.toList ∧ x.length ≤ 800
theorem okT_S {l : List Nat} (h : Asc l) (hl : l.length ≤ 800) : okT (S l) := ⟨h, by rw [S_len]; exact hl⟩
theorem eqC_told (g : List Int) : eqC (.tuple [.str "told", eT PyData.int g]) (eP PyData.str PyData.str ("refused", "NoText")) = some false := by
  unfold eqC
  rw [if_pos]
  · rfl
  · refine ⟨?_, by decide +kernel⟩
    have h0 : ShE (fun _ : Unit => PyData.str "told") 0 := ⟨fun _ => by decide +kernel, fun _ => by decide +kernel⟩
    exact (ShE.P h0 (ShE.T shE_int)).sh ((), g)
theorem other_ok {x : Str} (h : okT x) : y_law_k50_b1 () x = some (.nx ()) := by
  have ex : x = S x.cps.toList := (S_tl x).symm
  obtain ⟨h1, h2⟩ := h
  have hl : x.cps.toList.length ≤ 800 := by have : x.cps.toList.length = x.length := Array.length_toList; omega
  generalize x.cps.toList = w at ex h1 hl
  subst ex
  obtain ⟨_, hg⟩ := poly_from_eq h1 hl
  unfold y_law_k50_b1
  refine bstep (read_eq h1 hl) ?_
  unfold readL
  cases hp : polyL w with
  | none => exact bstep (x := .tuple [.str "refused", .str "NoText"]) rfl (bstep (show _ = some true by decide +kernel) (bstep (ite_f rfl rfl) (ite_f rfl rfl)))
  | some g =>
    obtain ⟨c1, c2, c3, c4⟩ := hg g hp
    refine bstep (x := .tuple [.str "told", eT PyData.int g]) rfl (bstep (eqC_told g) (bstep (x := false) (ite_t rfl (bstep (x := ("told", eT PyData.int g)) rfl (bstep (x := false) (ite_f rfl (bstep (x := ("told", eT PyData.int g)) rfl (bstep (asV_ints g) (bstep (law_text_eq c1 c2) ?_)))) rfl))) (ite_f rfl rfl)))
    rw [c4]; simp
theorem some_ok {x : Str} (h : okT x) (hp : polyL x.cps.toList = none) : y_law_k50_b2 () x = some (.nx ()) := by
  have ex : x = S x.cps.toList := (S_tl x).symm
  obtain ⟨h1, h2⟩ := h
  have hl : x.cps.toList.length ≤ 800 := by have : x.cps.toList.length = x.length := Array.length_toList; omega
  generalize x.cps.toList = w at ex h1 hl hp
  subst ex
  unfold y_law_k50_b2
  refine bstep (read_eq h1 hl) ?_
  unfold readL
  rw [hp]
  exact bstep (x := .tuple [.str "refused", .str "NoText"]) rfl (bstep (show _ = some true by decide +kernel) (ite_f rfl rfl))
theorem all_okT {l : List Str} (h : l.all (fun x => x.cps.toList.all (fun c => decide (c < 128)) && decide (x.length ≤ 800)) = true) : ∀ x ∈ l, okT x := fun x hx => by
  have := List.all_eq_true.mp h x hx
  rw [Bool.and_eq_true] at this
  exact ⟨fun c hc => of_decide_eq_true (List.all_eq_true.mp this.1 c hc), of_decide_eq_true this.2⟩
theorem fil_sub {c : Str → Bool} : ∀ xs : List Str, ∃ L, filO (fun x => some (c x)) (fun x => some x) xs = some L ∧ ∀ x ∈ L, x ∈ xs
  | [] => ⟨[], rfl, fun _ h => h⟩
  | x :: r => by
    obtain ⟨L, e, h⟩ := fil_sub (c := c) r
    cases hc : c x with
    | true => exact ⟨x :: L, by
        show (some (c x)).bind _ = _
        rw [hc]
        exact bstep rfl (bstep e rfl), fun y hy => by
        rcases List.mem_cons.mp hy with rfl | hy
        · simp
        · simp [h y hy]⟩
    | false => exact ⟨L, by
        show (some (c x)).bind _ = _
        rw [hc]
        exact e, fun y hy => by simp [h y hy]⟩
theorem others_eq {f : List Int} {w : List Nat} (ha : Asc w) (hl : w.length ≤ 300) : ∃ L, y__law_others f (S w) = some L ∧ ∀ x ∈ L, okT x := by
  have c1 : ∀ l m : List Nat, Asc l → Asc m → Asc (l ++ m) := fun l m h1 h2 c hc => by
    rcases List.mem_append.mp hc with z | z
    · exact h1 c z
    · exact h2 c z
  have one : ∀ l : List Nat, l.all (fun c => decide (c < 128)) = true → Asc l := fun l h c hc => of_decide_eq_true (List.all_eq_true.mp h c hc)
  have lp0 : ("+0" : Str) = S [43, 48] := by decide +kernel
  have lsp : (" " : Str) = S [32] := by decide +kernel
  unfold y__law_others
  rw [lt_plus, lp0, lt_0, lsp, lt_x, lt_1, lt_minus]
  obtain ⟨L, eL, hL⟩ := fil_sub (c := fun x1 => !decide (x1 = S w)) ([S ([43] ++ w), S (w ++ [43, 48]), S ([48] ++ w), S (w ++ [32]), S ([32] ++ w), S (w ++ [120]), S ([49] ++ w ++ [45]), ("" : Str), S [45], ("x^" : Str)] ++ [("x^1" : Str), ("1x" : Str), ("-1x" : Str), ("0x" : Str), ("-0" : Str), ("00" : Str), ("x^0" : Str), ("x^13" : Str), ("1+x" : Str), ("x+x" : Str)] ++ [("x^2+x^2" : Str), ("2*x" : Str), ("X" : Str), ("x-" : Str), ("--1" : Str)])
  refine ⟨L, bstep (catS_S (by simp; omega)) (bstep (catS_S (by simp; omega)) (bstep (catS_S (by simp; omega)) (bstep (catS_S (by simp; omega)) (bstep (catS_S (by simp; omega)) (bstep (catS_S (by simp; omega)) (bstep (catS_S (by simp; omega)) (bstep (catS_S (by simp; omega)) (bstep rfl (bstep (if_pos (by simp)) (bstep (if_pos (by simp)) (bstep ((if_pos (by simp)).trans eL) rfl))))))))))), fun x hx => ?_⟩
  have m := hL x hx
  rcases List.mem_append.mp m with m | m
  · rcases List.mem_append.mp m with m | m
    · simp only [List.mem_cons, List.not_mem_nil, or_false] at m
      rcases m with rfl | rfl | rfl | rfl | rfl | rfl | rfl | m | m | m
      · exact okT_S (c1 _ _ (one _ rfl) ha) (by simp; omega)
      · exact okT_S (c1 _ _ ha (one _ rfl)) (by simp; omega)
      · exact okT_S (c1 _ _ (one _ rfl) ha) (by simp; omega)
      · exact okT_S (c1 _ _ ha (one _ rfl)) (by simp; omega)
      · exact okT_S (c1 _ _ (one _ rfl) ha) (by simp; omega)
      · exact okT_S (c1 _ _ ha (one _ rfl)) (by simp; omega)
      · exact okT_S (c1 _ _ (c1 _ _ (one _ rfl) ha) (one _ rfl)) (by simp; omega)
      · exact all_okT (l := [("" : Str), S [45], ("x^" : Str)]) (by decide +kernel) x (by simp [m])
      · exact all_okT (l := [("" : Str), S [45], ("x^" : Str)]) (by decide +kernel) x (by simp [m])
      · exact all_okT (l := [("" : Str), S [45], ("x^" : Str)]) (by decide +kernel) x (by simp [m])
    · exact all_okT (by decide +kernel) x m
  · exact all_okT (by decide +kernel) x m
theorem asc_lay {l : List Nat} (h : Asc l) : PyData.canLay0 (.str (S l)) = true := by
  show (l.toArray).all (fun c => decide (c < 0x110000)) = true
  rw [List.all_toArray]
  exact List.all_eq_true.mpr fun c hc => decide_eq_true (by have := h c hc; omega)
theorem m_law_k50 (b : Bag) (ok : BagOk 100000 b) : y_law_k50 b = some (.nx ()) := by
  obtain ⟨t, e, ht, ok1⟩ := take_spec ok 14
  have e1 : rng1 t.1 = some (rngZ 0 t.1.toNat) := rng1_eq (by omega) (by omega)
  have l1 := rngZ_len 0 t.1.toNat
  obtain ⟨row, e6, hlr, hrow, _⟩ := mapBC_spec (f := fun b1 (x1 : Int) => (Option.bind (y__law_int b1) fun t2 => Option.bind (y__law_wide t2.2) fun t3 => Option.bind (takeC t3.2 (5 : Int)) fun t4 => Option.bind (atI [(0 : Int), (1 : Int), (-(1 : Int)), t2.1, t3.1] t4.1) fun t5 => some (t5, t4.2))) (post := fun z => z.natAbs < 10 ^ 16) 6 (xs := rngZ 0 t.1.toNat) (fun n b x _ ok hn => by
    obtain ⟨v, ev, hv, okv⟩ := int_spec ok
    obtain ⟨u, eu, hu, oku⟩ := wide_spec okv
    obtain ⟨q, eq, hq, okq⟩ := take_spec oku 5
    obtain ⟨a, ea, hm, _⟩ := atI_pos (xs := [(0 : Int), (1 : Int), (-(1 : Int)), v.1, u.1]) (i := q.1) (by omega) (by simp; omega)
    refine ⟨(a, q.2), bstep ev (bstep eu (bstep eq (bstep ea rfl))), ?_, okq.mono (by omega)⟩
    simp only [List.mem_cons, List.not_mem_nil, or_false] at hm
    show a.natAbs < 10 ^ 16
    rcases hm with rfl | rfl | rfl | rfl | rfl <;> omega) ok1 (by omega) (by omega)
  have h16 : ∀ a ∈ trimZ row.1, a.natAbs < 10 ^ 16 := fun a ha => hrow a (trimZ_mem ha)
  have hlf : (trimZ row.1).length ≤ 13 := Nat.le_trans (trimZ_len _) (by omega)
  have tf : trimd (trimZ row.1) := trimd_trimZ _
  generalize hf : trimZ row.1 = f at h16 hlf tf
  have cf : Cf f := fun a ha => Nat.lt_trans (h16 a ha) (by decide +kernel)
  obtain ⟨asc, len⟩ := pTxt_ok h16 hlf
  have e8 := law_text_eq cf hlf
  have e9 : y_write_poly f = some (.ok (S (pTxt f))) := by
    unfold y_write_poly
    exact bstep (look_poly tf hlf) (bstep (poly_text_eq cf hlf) rfl)
  have e11 : y_read_poly (S (pTxt f)) = some (.ok f) := by
    rw [read_eq asc (by omega)]
    unfold readL
    rw [back tf cf hlf]
  obtain ⟨L, e14, hL⟩ := others_eq (f := f) asc len
  unfold y_law_k50
  refine bstep e (bstep e1 (bstep e6 (bstep (by rw [← hf]; exact law_trim_eq _) (bstep e8 (bstep (okC_eq e9) (bstep (sameC_refl (d := .str _) (asc_lay asc)) (bstep (x := false) (ite_f rfl (bstep (okC_eq e11) (bstep (sameC_refl (pl_T (by omega))) rfl))) (ite_f rfl (bstep e14 (bstep (x := .nx ()) (forC_all fun x hx => other_ok (hL x hx)) (bstep rfl (bstep (x := _) (if_pos (by decide)) (bstep (x := .nx ()) (forC_all fun x hx => ?_) rfl)))))))))))))
  have key : ∀ x ∈ [("x^1" : Str), ("1x" : Str), ("0x" : Str), ("-0" : Str), ("x^0" : Str), ("x^13" : Str), ("1+x" : Str), ("x+x" : Str), ("" : Str), ("x^2+x^2" : Str), ("+x" : Str), ("x x" : Str), ("x^-1" : Str)] ++ [("x^02" : Str)], decide (polyL x.cps.toList = none) = true := List.all_eq_true.mp (by decide +kernel)
  exact some_ok (all_okT (l := [("x^1" : Str), ("1x" : Str), ("0x" : Str), ("-0" : Str), ("x^0" : Str), ("x^13" : Str), ("1+x" : Str), ("x+x" : Str), ("" : Str), ("x^2+x^2" : Str), ("+x" : Str), ("x x" : Str), ("x^-1" : Str)] ++ [("x^02" : Str)]) (by decide +kernel) x hx) (of_decide_eq_true (key x hx))
end AM

set_option Elab.async false
set_option linter.all false
set_option maxRecDepth 100000
set_option maxHeartbeats 1000000
set_option exponentiation.threshold 2000
namespace AM
open PySem PySem.Spec PyProof.Rows L2 SX
theorem find_x (l : List Nat) : (Txt.find (S l) (S [120]) = -1 ∧ TL.par [120] [] l = none) ∨ ∃ i : Nat, Txt.find (S l) (S [120]) = (i : Int) ∧ i < l.length ∧ TL.par [120] [] l = some (l.take i, l.drop (i + 1)) := by
  rcases find_whole (S l) (S [120]) with ⟨h, hn⟩ | ⟨i, h, hi, hn⟩
  · refine .inl ⟨h, par_head_none (sep := []) fun hm => ?_⟩
    obtain ⟨i, hi⟩ := List.mem_iff_getElem?.mp hm
    exact hn i ((StrLaws.subAt_one (S l) 120 i).mpr hi)
  · have e : l[i]? = some 120 := (StrLaws.subAt_one (S l) 120 i).mp hi
    obtain ⟨hl, e1⟩ := List.getElem?_eq_some_iff.mp e
    refine .inr ⟨i, h, hl, ?_⟩
    have e2 : l.take i ++ ([120] ++ l.drop (i + 1)) = l := by
      have : l.drop i = 120 :: l.drop (i + 1) := by rw [← e1]; exact List.drop_eq_getElem_cons hl
      rw [List.singleton_append, ← this, List.take_append_drop]
    have fr : 120 ∉ l.take i := fun hm => by
      obtain ⟨k, hk⟩ := List.mem_iff_getElem?.mp hm
      rw [List.getElem?_take] at hk
      split at hk
      · rename_i hki
        exact hn k hki ((StrLaws.subAt_one (S l) 120 k).mpr hk)
      · cases hk
    have := par_head (c := 120) (sep := []) (l.drop (i + 1)) fr
    rwa [show l.take i ++ (120 :: [] ++ l.drop (i + 1)) = l from e2] at this
theorem slS_to {a : List Nat} {i : Int} (h : a.length ≤ 100000) (hi : 0 ≤ i) : slS (S a) none (some i) = some (S (a.take i.toNat)) := by
  unfold slS
  rw [S_len, if_pos h, C8.cutS_slice, slice_to hi]
theorem slS_fr {a : List Nat} {i : Int} (h : a.length ≤ 100000) (hi : 0 ≤ i) : slS (S a) (some i) none = some (S (a.drop i.toNat)) := by
  unfold slS
  rw [S_len, if_pos h, C8.cutS_slice, slice_from hi]
theorem ixS_S {l : List Nat} {i : Nat} (h : i < l.length) (h2 : l.length ≤ 100000) : ixS (S l) (i : Int) = some (S [l[i]]) := by
  unfold ixS
  rw [if_pos ⟨by omega, by omega⟩]
  have : (S l).cps[((i : Int)).toNat]? = some l[i] := by
    show (l.toArray)[i]? = _
    simp [h]
  rw [this]; rfl
def fgs (w : List Nat) : List Nat := if w.head? = some 45 then w.tail else w
def sval (w : List Nat) : Int := if w.head? = some 45 then -((NumText.digitsVal w.tail : Nat) : Int) else ((NumText.digitsVal w : Nat) : Int)
def lwhole (w : List Nat) : Option Int := if (1 ≤ (fgs w).length ∧ (fgs w).length ≤ 60) ∧ dgs (fgs w) = true then some (sval w) else none
theorem take1 (w : List Nat) : w.take 1 = [45] ↔ w.head? = some 45 := by
  cases w with
  | nil => simp
  | cons a r => simp
theorem figs : ("0123456789" : Str).cps.toList = [48, 49, 50, 51, 52, 53, 54, 55, 56, 57] := by decide +kernel
theorem in_figs (c : Nat) : inSgn ⟨#[c]⟩ ("0123456789" : Str) = some (decide (48 ≤ c) && decide (c ≤ 57)) := by
  refine (if_pos rfl).trans ?_
  rw [figs]
  congr 1
  show decide (c ∈ _) = _
  rw [← Bool.decide_and]
  apply decide_eq_decide.mpr
  simp only [List.mem_cons, List.not_mem_nil, or_false]
  omega
theorem shE_strs {l : List Str} (h : ∀ x ∈ l, PyData.canLay0 (.str x) = true) : SeqAt.shaped (eL PyData.str l) = true := by
  have := lay_of (ds := l.map PyData.str) (n := 0) fun d hd => by
    obtain ⟨x, hx, rfl⟩ := List.mem_map.mp hd
    exact ⟨h x hx, Nat.zero_le _⟩
  unfold SeqAt.shaped
  have e1 : (eL PyData.str l).canLay0 = true := by simp only [eL, PyData.canLay0]; exact this.1
  have e2 : (eL PyData.str l).depth ≤ 64 := by simp only [eL, PyData.depth]; have := this.2; omega
  rw [e1, decide_eq_true e2]; rfl
theorem eqC_strs {l : List Str} (h : ∀ x ∈ l, PyData.canLay0 (.str x) = true) : eqC (eL PyData.str l) (eL PyData.str []) = some l.isEmpty := by
  unfold eqC
  rw [if_pos ⟨shE_strs h, shE_strs fun _ h => by cases h⟩]
  cases l with
  | nil => rfl
  | cons a r => rfl
theorem dgs_fil (l : List Nat) : (l.filter fun c => !(decide (48 ≤ c) && decide (c ≤ 57))).isEmpty = dgs l := by
  induction l with
  | nil => rfl
  | cons c r ih =>
    unfold dgs at ih ⊢
    rw [List.filter_cons, List.all_cons]
    cases hc : (decide (48 ≤ c) && decide (c ≤ 57)) with
    | true => simpa using ih
    | false => simp
theorem odds {l : List Nat} (ha : Asc l) (hl : l.length ≤ 1000) : ∃ L, filC (fun x1 => (Option.bind (inSgn x1 ("0123456789" : Str)) fun t3 => some (!t3))) (fun x1 => (some x1)) (sgsS (S l)) = some L ∧ eqC (eL PyData.str L) (eL PyData.str ([] : List Str)) = some (dgs l) := by
  have hs : sgsS (S l) = l.map fun c => (⟨#[c]⟩ : Str) := rfl
  have e : ∀ l : List Nat, filO (fun x1 => (Option.bind (inSgn x1 ("0123456789" : Str)) fun t3 => some (!t3))) (fun x1 => (some x1)) (l.map fun c => (⟨#[c]⟩ : Str)) = some ((l.filter fun c => !(decide (48 ≤ c) && decide (c ≤ 57))).map fun c => (⟨#[c]⟩ : Str)) := fun l => by
    induction l with
    | nil => rfl
    | cons c r ih =>
      have e1 : (Option.bind (inSgn ⟨#[c]⟩ ("0123456789" : Str)) fun t3 => some (!t3)) = some (!(decide (48 ≤ c) && decide (c ≤ 57))) := bstep (in_figs c) rfl
      show (Option.bind (inSgn ⟨#[c]⟩ ("0123456789" : Str)) fun t3 => some (!t3)).bind _ = _
      rw [e1]
      cases hc : !(decide (48 ≤ c) && decide (c ≤ 57)) with
      | true =>
        rw [List.filter_cons, if_pos hc]
        exact bstep rfl (bstep ih rfl)
      | false =>
        rw [List.filter_cons, if_neg (by rw [hc]; decide)]
        exact ih
  refine ⟨_, (if_pos (by rw [hs, List.length_map]; omega)).trans (by rw [hs]; exact e l), ?_⟩
  rw [eqC_strs, List.isEmpty_map, dgs_fil]
  intro x hx
  obtain ⟨c, hc, rfl⟩ := List.mem_map.mp hx
  have := ha c (List.mem_filter.mp hc).1
  exact asc_lay (l := [c]) fun d hd => by rw [List.mem_singleton] at hd; omega
theorem lwhole_eq {w : List Nat} (ha : Asc w) (hl : w.length ≤ 600) : y__law_whole_of (S w) = some (lwhole w) := by
  have af : Asc (fgs w) := fun c hc => by
    unfold fgs at hc
    split at hc
    · exact ha c (List.mem_of_mem_tail hc)
    · exact ha c hc
  have lf : (fgs w).length ≤ 600 := by
    unfold fgs
    split
    · rw [List.length_tail]; omega
    · exact hl
  have e2 : (if (decide (S (w.take 1) = S [45])) = true then (Option.bind (slS (S w) (some 1) none) fun t1 => some t1) else some (S w)) = some (S (fgs w)) := by
    rw [dec_S]; unfold fgs
    by_cases h : w.head? = some 45
    · rw [if_pos h]; exact ite_t (decide_eq_true ((take1 w).mpr h)) (bstep (slS_1 (by omega)) rfl)
    · rw [if_neg h]; exact ite_f (decide_eq_false fun z => h ((take1 w).mp z)) rfl
  obtain ⟨L, eL, eq⟩ := odds af (by omega)
  unfold y__law_whole_of
  rw [lt_minus, lt_nil]
  refine bstep (slS_to (i := 1) (by omega) (by decide)) (bstep e2 ?_)
  rw [dec_S]
  by_cases h0 : fgs w = []
  · rw [show lwhole w = none from if_neg fun z => by rw [h0] at z; simp at z]
    exact bstep (ite_t (decide_eq_true h0) rfl) (ite_t rfl rfl)
  · have l1 : 1 ≤ (fgs w).length := by
      cases h : fgs w with
      | nil => exact absurd h h0
      | cons a r => simp
    cases hd : dgs (fgs w) with
    | false =>
      rw [show lwhole w = none from if_neg fun z => by rw [hd] at z; exact absurd z.2 (by decide)]
      rw [hd] at eq
      exact bstep (ite_f (decide_eq_false h0) (bstep eL (bstep eq (bstep (ite_t rfl rfl) rfl)))) (ite_t rfl rfl)
    | true =>
      rw [hd] at eq
      by_cases h6 : (fgs w).length ≤ 60
      · rw [show lwhole w = some (sval w) from if_pos ⟨⟨l1, h6⟩, hd⟩]
        refine bstep (ite_f (decide_eq_false h0) (bstep eL (bstep eq (bstep (ite_f rfl (bstep (lenS_S (by omega)) (congrArg some (decide_eq_false (by omega))))) rfl)))) (ite_f rfl (bstep ?_ rfl))
        unfold intC sval
        unfold fgs at h6 hd h0
        by_cases hh : w.head? = some 45
        · rw [if_pos hh] at h6 hd h0
          have ew : w = 45 :: w.tail := by
            cases w with
            | nil => cases hh
            | cons a r => simp at hh; subst hh; rfl
          have hz : w.length ≤ 61 := by rw [List.length_tail] at h6; omega
          rw [S_len, if_pos (by omega), if_pos hh]
          exact intText_neg (x := S w) ew (all_dg hd) h0 (by rw [S_len]; omega)
        · rw [if_neg hh] at h6 hd h0
          rw [S_len, if_pos (by omega), if_neg hh]
          exact int_S hd h0 (by omega)
      · rw [show lwhole w = none from if_neg fun z => h6 z.1.2]
        exact bstep (ite_f (decide_eq_false h0) (bstep eL (bstep eq (bstep (ite_f rfl (bstep (lenS_S (by omega)) (congrArg some (decide_eq_true (by omega))))) rfl)))) (ite_t rfl rfl)
def lpow (t : List Nat) : Option Int := if t = [] then some 1 else if t.head? = some 94 then lwhole t.tail else none
def lboth (a b : Option Int) : Option (Int × Int) := match a, b with
  | some n, some k => if 1 ≤ k ∧ k ≤ 12 then some (n, k) else none
  | _, _ => none
def lterm (p : List Nat) : Option (Int × Int) := match TL.par [120] [] p with
  | none => (lwhole p).map fun n => (n, 0)
  | some (h, t) => lboth (lwhole (headL h)) (lpow t)
theorem lboth_eq (t12 j : Option Int) : (Option.bind (if t12.isNone = true then some true else (Option.bind (if j.isNone = true then some true else (Option.bind (j) fun t13 => Option.bind (if (decide (t13 < (1 : Int))) = true then some true else (Option.bind (j) fun t14 => some (decide ((12 : Int) < t14)))) fun t15 => some t15)) fun t16 => some t16)) fun t17 =>
    Option.bind (if t17 = true then (some none) else (Option.bind (t12) fun t18 => Option.bind (j) fun t19 => some (some (t18, t19)))) fun t20 => some t20) = some (lboth t12 j) := by
  cases t12 with
  | none => rfl
  | some n =>
    cases j with
    | none => rfl
    | some k =>
      by_cases h1 : k < 1
      · rw [show lboth (some n) (some k) = none from if_neg (by omega)]
        exact bstep (ite_f rfl (bstep (ite_f rfl (bstep rfl (bstep (ite_t (decide_eq_true h1) rfl) rfl))) rfl)) (bstep (ite_t rfl rfl) rfl)
      · by_cases h2 : 12 < k
        · rw [show lboth (some n) (some k) = none from if_neg (by omega)]
          exact bstep (ite_f rfl (bstep (ite_f rfl (bstep rfl (bstep (ite_f (decide_eq_false h1) (bstep rfl (congrArg some (decide_eq_true h2)))) rfl))) rfl)) (bstep (ite_t rfl rfl) rfl)
        · rw [show lboth (some n) (some k) = some (n, k) from if_pos (by omega)]
          exact bstep (ite_f rfl (bstep (ite_f rfl (bstep rfl (bstep (ite_f (decide_eq_false h1) (bstep rfl (congrArg some (decide_eq_false h2)))) rfl))) rfl)) (bstep (ite_f rfl rfl) rfl)
theorem asc_take {l : List Nat} (h : Asc l) (i : Nat) : Asc (l.take i) := fun c hc => h c (List.mem_of_mem_take hc)
theorem asc_drop {l : List Nat} (h : Asc l) (i : Nat) : Asc (l.drop i) := fun c hc => h c (List.mem_of_mem_drop hc)
theorem asc_app {l m : List Nat} (h1 : Asc l) (h2 : Asc m) : Asc (l ++ m) := fun c hc => by
  rcases List.mem_append.mp hc with z | z
  · exact h1 c z
  · exact h2 c z
theorem lterm_eq {p : List Nat} (ha : Asc p) (hl : p.length ≤ 500) : y__law_one_part (S p) = some (lterm p) := by
  unfold y__law_one_part
  rw [lt_x, lt_nil, lt_minus, lt_hat, lt_1]
  rcases find_x p with ⟨h, hp⟩ | ⟨i, h, hi, hp⟩
  · refine bstep rfl (ite_t (by rw [h]; rfl) (bstep (lwhole_eq ha (by omega)) (bstep (x := lterm p) ?_ rfl)))
    unfold lterm
    rw [hp]
    cases lwhole p with
    | none => rfl
    | some n => rfl
  · have et : lterm p = lboth (lwhole (headL (p.take i))) (lpow (p.drop (i + 1))) := by unfold lterm; rw [hp]
    have lt : (p.take i).length ≤ 500 := by rw [List.length_take]; omega
    have ld : (p.drop (i + 1)).length ≤ 500 := by rw [List.length_drop]; omega
    rw [et]
    refine bstep (x := (i : Int)) (congrArg some h) (ite_f (decide_eq_false (by omega)) (bstep rfl (bstep (x := S (p.drop (i + 1))) ((slS_fr (by omega) (by omega)).trans (by congr 1)) (bstep (x := lpow (p.drop (i + 1))) ?_ (bstep (x := S (p.take i)) (slS_to (by omega) (by omega)) (bstep (x := lwhole (headL (p.take i))) ?_ (lboth_eq _ _)))))))
    · rw [dec_S]
      unfold lpow
      by_cases ht : p.drop (i + 1) = []
      · rw [if_pos ht]; exact ite_f (by rw [decide_eq_true ht]; rfl) rfl
      · rw [if_neg ht]
        have hi1 : i + 1 < p.length := by
          apply Classical.byContradiction
          intro z
          exact ht (List.drop_eq_nil_of_le (by omega))
        have ed : p.drop (i + 1) = p[i + 1] :: p.drop (i + 2) := List.drop_eq_getElem_cons hi1
        refine ite_t (by rw [decide_eq_false ht]; rfl) (bstep (x := S [p[i + 1]]) (ixS_S (i := i + 1) hi1 (by omega)) ?_)
        rw [dec_S, ed]
        show _ = some (if some p[i + 1] = some 94 then lwhole (p.drop (i + 2)) else none)
        by_cases hc : p[i + 1] = 94
        · rw [if_pos (show some p[i + 1] = some 94 by rw [hc])]
          refine bstep (ite_t (decide_eq_true (by rw [hc])) (bstep (x := S (p.drop (i + 2))) ((slS_fr (by omega) (by omega)).trans (by congr 1)) (bstep (lwhole_eq (asc_drop ha _) (by rw [List.length_drop]; omega)) rfl))) rfl
        · rw [if_neg fun z => hc (Option.some.inj z)]
          exact bstep (ite_f (decide_eq_false fun z => hc (by injection z)) rfl) rfl
    · unfold headL
      by_cases hh : p.take i = [] ∨ p.take i = [45]
      · rw [if_pos hh]
        refine ite_t ?_ (bstep (catS_S (by simp; omega)) (bstep (lwhole_eq (asc_app (asc_take ha _) fun c hc => by rw [List.mem_singleton] at hc; omega) (by rw [List.length_append, List.length_singleton]; omega)) rfl))
        refine decide_eq_true ?_
        rcases hh with hh | hh <;> rw [hh] <;> simp
      · rw [if_neg hh]
        refine ite_f ?_ (bstep (lwhole_eq (asc_take ha _) (by omega)) rfl)
        refine decide_eq_false fun z => ?_
        simp only [List.mem_cons, List.not_mem_nil, or_false] at z
        rcases z with z | z
        · exact hh (.inl (S_inj z))
        · exact hh (.inr (S_inj z))
theorem lwhole_lt {w : List Nat} {n : Int} (h : lwhole w = some n) : n.natAbs < 10 ^ 60 := by
  have key : ∀ l : List Nat, l.length ≤ 60 → dgs l = true → NumText.digitsVal l < 10 ^ 60 := fun l hl hd => by
    have := val_lt l 0 (all_dg hd)
    have h2 := Nat.pow_le_pow_right (n := 10) (by decide) hl
    unfold NumText.digitsVal
    omega
  unfold lwhole sval fgs at h
  by_cases hh : w.head? = some 45
  · simp only [if_pos hh] at h
    split at h
    · rename_i hc
      have := key w.tail hc.1.2 hc.2
      have h := Option.some.inj h
      omega
    · cases h
  · simp only [if_neg hh] at h
    split at h
    · rename_i hc
      have := key w hc.1.2 hc.2
      have h := Option.some.inj h
      omega
    · cases h
theorem lterm_rng {p : List Nat} {n k : Int} (h : lterm p = some (n, k)) : n.natAbs < 10 ^ 60 ∧ 0 ≤ k ∧ k ≤ 12 := by
  unfold lterm at h
  split at h
  · obtain ⟨m, e, h⟩ := Option.map_eq_some_iff.mp h
    cases h
    exact ⟨lwhole_lt e, by omega, by omega⟩
  · rename_i a b _
    cases ha : lwhole (headL a) with
    | none => rw [ha] at h; cases h
    | some x =>
      rw [ha] at h
      cases hb : lpow b with
      | none => rw [hb] at h; cases h
      | some y =>
        rw [hb] at h
        unfold lboth at h
        simp only at h
        split at h
        · rename_i hy
          cases h
          exact ⟨lwhole_lt ha, by omega, hy.2⟩
        · cases h
def lrow : List (List Nat) → List Int → Option (List Int)
  | [], r => some r
  | p :: ps, r => if p = [] then lrow ps r else match lterm p with
    | none => none
    | some q => lrow ps (r.set q.2.toNat q.1)
def C60 (f : List Int) : Prop := ∀ a ∈ f, a.natAbs < 10 ^ 60
theorem C60.cf {f : List Int} (h : C60 f) : Cf f := fun a ha => Nat.lt_trans (h a ha) (by decide +kernel)
theorem C60.set {f : List Int} (h : C60 f) {i : Nat} {a : Int} (ha : a.natAbs < 10 ^ 60) : C60 (f.set i a) := fun x hx => by
  rcases List.mem_or_eq_of_mem_set hx with h1 | h1
  · exact h x h1
  · rw [h1]; exact ha
theorem lloop_eq : ∀ (ps : List (List Nat)) (r : List Int), (∀ p ∈ ps, Asc p ∧ p.length ≤ 500) → r.length = 13 → C60 r → (lrow ps r = none ∧ forC y__law_poly_in_b1 (ps.map S) r = some (.rt none)) ∨ ∃ r', lrow ps r = some r' ∧ forC y__law_poly_in_b1 (ps.map S) r = some (.nx r') ∧ r'.length = 13 ∧ C60 r'
  | [], r, _, hl, hc => .inr ⟨r, rfl, rfl, hl, hc⟩
  | p :: ps, r, hp, hl, hc => by
    have hps := fun q hq => hp q (List.mem_cons_of_mem _ hq)
    have h1 := hp p (by simp)
    have step : ∀ r2, y__law_poly_in_b1 r (S p) = some (.nx r2) → forC y__law_poly_in_b1 ((p :: ps).map S) r = forC y__law_poly_in_b1 (ps.map S) r2 := fun r2 h => by
      show (y__law_poly_in_b1 r (S p)).bind _ = _
      rw [h]; rfl
    by_cases h0 : p = []
    · have e : y__law_poly_in_b1 r (S p) = some (.nx r) := by
        unfold y__law_poly_in_b1
        rw [lt_nil, dec_S]
        exact ite_f (by rw [decide_eq_true h0]; rfl) rfl
      rw [step r e, show lrow (p :: ps) r = lrow ps r from if_pos h0]
      exact lloop_eq ps r hps hl hc
    · have e0 : lrow (p :: ps) r = match lterm p with
        | none => none
        | some q => lrow ps (r.set q.2.toNat q.1) := if_neg h0
      rw [e0]
      cases ht : lterm p with
      | none =>
        refine .inl ⟨rfl, ?_⟩
        have e : y__law_poly_in_b1 r (S p) = some (.rt none) := by
          unfold y__law_poly_in_b1
          rw [lt_nil, dec_S]
          refine ite_t (by rw [decide_eq_false h0]; rfl) (bstep (lterm_eq h1.1 h1.2) ?_)
          rw [ht]
          exact ite_t rfl rfl
        show (y__law_poly_in_b1 r (S p)).bind _ = _
        rw [e]; rfl
      | some q =>
        obtain ⟨n, k⟩ := q
        have hr := lterm_rng ht
        have es : setC r k n = some (r.set k.toNat n) := by
          have := setC_nat (xs := r) (i := k.toNat) n (by omega)
          rwa [show ((k.toNat : Nat) : Int) = k by omega] at this
        have e : y__law_poly_in_b1 r (S p) = some (.nx (r.set k.toNat n)) := by
          unfold y__law_poly_in_b1
          rw [lt_nil, dec_S]
          refine ite_t (by rw [decide_eq_false h0]; rfl) (bstep (lterm_eq h1.1 h1.2) ?_)
          rw [ht]
          exact ite_f rfl (bstep rfl (bstep rfl (bstep es rfl)))
        rw [step _ e]
        exact lloop_eq ps _ hps (by rw [List.length_set]; exact hl) (hc.set hr.1)
def lpoly (w : List Nat) : Option (List Int) := match lrow (cuts [] w) (List.replicate 13 0) with
  | none => none
  | some r => if pTxt (trimZ r) = w then some (trimZ r) else none
theorem lpoly_eq {w : List Nat} (ha : Asc w) (hl : w.length ≤ 500) : y__law_poly_in (S w) = some (lpoly w) ∧ ∀ g, lpoly w = some g → C60 g ∧ g.length ≤ 13 ∧ trimd g ∧ pTxt g = w := by
  obtain ⟨t1, e1, e2⟩ := bs (parts_eq (w := w) (by omega))
  have er : repL [(0 : Int)] (13 : Int) = some (List.replicate 13 0) := by decide +kernel
  have hm := cuts_mem w [] 500 (fun _ h => by cases h) ha (by simpa using hl)
  have L := lloop_eq (cuts [] w) (List.replicate 13 0) (fun p hp => hm p hp) (by simp) fun a h => by rw [(List.mem_replicate.mp h).2]; decide +kernel
  unfold y__law_poly_in
  rcases L with ⟨l1, l2⟩ | ⟨r, l1, l2, l3, l4⟩
  · have : lpoly w = none := by unfold lpoly; rw [l1]
    rw [this]
    exact ⟨bstep er (bstep e1 (bstep e2 (bstep l2 rfl))), fun g h => by cases h⟩
  · have hl' : (trimZ r).length ≤ 13 := Nat.le_trans (trimZ_len r) (by omega)
    have hc : C60 (trimZ r) := fun a h => l4 a (trimZ_mem h)
    have e : lpoly w = if pTxt (trimZ r) = w then some (trimZ r) else none := by unfold lpoly; rw [l1]
    refine ⟨bstep er (bstep e1 (bstep e2 (bstep l2 (bstep (law_trim_eq (true, r)) (bstep (law_text_eq hc.cf hl') ?_))))), fun g hg => ?_⟩
    · rw [e, dec_S]
      by_cases h : pTxt (trimZ r) = w
      · rw [if_pos h, if_pos (decide_eq_true h)]
      · rw [if_neg h, if_neg (by rw [decide_eq_false h]; decide)]
    · rw [e] at hg
      split at hg
      · rename_i h
        cases hg
        exact ⟨hc, hl', trimd_trimZ r, h⟩
      · cases hg
theorem lwhole_of {w : List Nat} {n : Int} (h : wholeL w = some n) (hl : w.length ≤ 60) : lwhole w = some n := by
  unfold wholeL at h
  have e : (if w.head? = some 45 then w.tail else w) = fgs w := rfl
  simp only [e] at h
  split at h
  · rename_i hc
    rw [← h]
    refine if_pos ⟨⟨hc.1.1, ?_⟩, hc.2.1⟩
    unfold fgs
    split
    · rw [List.length_tail]; omega
    · exact hl
  · cases h
theorem num_len60 {n : Nat} (h : n < 10 ^ 60) : (TL.numL n).length ≤ 60 := TL.numL_len (by decide) h
theorem lwhole_num {n : Nat} (h : n < 10 ^ 60) : lwhole (TL.numL n) = some (n : Int) := lwhole_of (whole_num (Nat.lt_trans h (by decide +kernel))) (num_len60 h)
theorem lwhole_sgn {a : Int} (h : a.natAbs < 10 ^ 60) (a0 : a ≠ 0) : lwhole (sgnL a ++ TL.numL a.natAbs) = some a := by
  have w := whole_sgn (Nat.lt_trans h (by decide +kernel)) a0
  unfold wholeL at w
  have e : (if (sgnL a ++ TL.numL a.natAbs).head? = some 45 then (sgnL a ++ TL.numL a.natAbs).tail else (sgnL a ++ TL.numL a.natAbs)) = fgs (sgnL a ++ TL.numL a.natAbs) := rfl
  simp only [e] at w
  split at w
  · rename_i hc
    rw [← w]
    refine if_pos ⟨⟨hc.1.1, ?_⟩, hc.2.1⟩
    have := num_len60 h
    unfold fgs sgnL
    by_cases hn : a < 0
    · rw [if_pos hn]; exact this
    · rw [if_neg hn, List.nil_append, if_neg (num_free _ 45 (by omega))]; exact this
  · cases w
theorem lterm_back {a : Int} {k : Nat} (h : a.natAbs < 10 ^ 60) (a0 : a ≠ 0) (hk : k ≤ 12) : lterm (sgnL a ++ bodyL a k) = some (a, (k : Int)) := by
  have fs : 120 ∉ sgnL a := by unfold sgnL; split <;> simp
  have fn : 120 ∉ TL.numL a.natAbs := TL.numL_free (by omega)
  unfold lterm bodyL
  by_cases h0 : k = 0
  · subst h0
    rw [if_pos (.inl rfl), if_pos rfl, List.append_nil, par_head_none (c := 120) (sep := []) (by simp [fs, fn])]
    show (lwhole _).map _ = _
    rw [lwhole_sgn h a0]; rfl
  · have hb : lboth (some a) (some (k : Int)) = some (a, (k : Int)) := if_pos ⟨by omega, by omega⟩
    generalize hnm : (if k = 0 ∨ a.natAbs ≠ 1 then TL.numL a.natAbs else []) = nm
    have hh : headL (sgnL a ++ nm) = sgnL a ++ TL.numL a.natAbs := by
      rw [← hnm]
      by_cases h1 : a.natAbs = 1
      · rw [if_neg (by intro z; rcases z with z | z; exact h0 z; exact z h1), List.append_nil, h1]
        have : TL.numL 1 = [49] := by decide +kernel
        rw [this]
        unfold headL sgnL
        split <;> simp
      · rw [if_pos (.inr h1)]
        unfold headL
        rw [if_neg]
        have := num_len0 a.natAbs
        have ne := TL.numL_ne a.natAbs
        rintro (z | z)
        · exact ne (List.append_eq_nil_iff.mp z).2
        · unfold sgnL at z
          split at z
          · simp at z; exact ne z
          · rw [List.nil_append] at z
            exact num_free a.natAbs 45 (by omega) (by rw [z]; rfl)
    have fm : 120 ∉ sgnL a ++ nm := by
      rw [← hnm]
      split <;> simp [fs, fn]
    rw [if_neg h0, ← List.append_assoc]
    have key : ∀ t : List Nat, lpow t = some (k : Int) → (match TL.par [120] [] (sgnL a ++ nm ++ (120 :: t)) with
        | none => (lwhole (sgnL a ++ nm ++ (120 :: t))).map fun n => (n, (0 : Int))
        | some (h, t) => lboth (lwhole (headL h)) (lpow t)) = some (a, (k : Int)) := fun t ht => by
      have := par_head (c := 120) (sep := []) t fm
      have e : TL.par [120] [] (sgnL a ++ nm ++ (120 :: t)) = some (sgnL a ++ nm, t) := this
      rw [e]
      show lboth (lwhole (headL (sgnL a ++ nm))) (lpow t) = _
      rw [hh, lwhole_sgn h a0, ht]
      exact hb
    by_cases h1 : k = 1
    · rw [if_pos h1]
      exact key [] (by subst h1; rfl)
    · rw [if_neg h1]
      refine key (94 :: TL.numL k) ?_
      unfold lpow
      rw [if_neg (by simp), if_pos (show (94 :: TL.numL k).head? = some 94 from rfl), List.tail_cons]
      exact lwhole_num (Nat.lt_of_le_of_lt hk (by decide +kernel))
theorem lrow_same : ∀ (ps : List (List Nat)) (r : List Int), (∀ p ∈ ps, p = [] ∨ lterm p = termP p) → lrow ps r = rowL ps r
  | [], r, _ => rfl
  | p :: ps, r, h => by
    have ih := fun r => lrow_same ps r fun q hq => h q (List.mem_cons_of_mem _ hq)
    show (if p = [] then lrow ps r else match lterm p with | none => none | some q => lrow ps (r.set q.2.toNat q.1)) = if p = [] then rowL ps r else match termP p with | none => none | some q => rowL ps (r.set q.2.toNat q.1)
    rcases h p (by simp) with z | z
    · rw [if_pos z, if_pos z, ih]
    · rw [z]
      split
      · exact ih r
      · cases termP p with
        | none => rfl
        | some q => exact ih _
theorem prt_mem (f : List Int) : ∀ (k : Nat) (p : List Nat), p ∈ prt f k → ∃ j, j < k ∧ f.getD j 0 ≠ 0 ∧ p = sgnL (f.getD j 0) ++ bodyL (f.getD j 0) j
  | 0, p, h => by cases h
  | k + 1, p, h => by
    rcases List.mem_append.mp h with h | h
    · by_cases h0 : f.getD k 0 = 0
      · rw [if_pos h0] at h; cases h
      · rw [if_neg h0, List.mem_singleton] at h
        exact ⟨k, by omega, h0, h⟩
    · obtain ⟨j, h1, h2⟩ := prt_mem f k p h
      exact ⟨j, by omega, h2⟩
theorem lback {f : List Int} (tf : trimd f) (hf : C60 f) (hl : f.length ≤ 13) : lpoly (pTxt f) = some f := by
  by_cases f0 : f = []
  · subst f0; decide +kernel
  have B := back tf hf.cf hl
  have S0 : lrow (cuts [] (pTxt f)) (List.replicate 13 0) = rowL (cuts [] (pTxt f)) (List.replicate 13 0) := by
    refine lrow_same _ _ fun p hp => ?_
    have np : prt f f.length ≠ [] := by
      rcases tf with h | ⟨r, x, hx, h⟩
      · exact absurd h f0
      · subst h
        rw [List.length_append, List.length_singleton]
        show (if (r ++ [x]).getD r.length 0 = 0 then _ else _) ++ _ ≠ []
        have : (r ++ [x]).getD r.length 0 = x := by simp [List.getD]
        rw [if_neg (by rw [this]; exact hx)]
        simp
    have hm : p = [] ∨ p ∈ prt f f.length := by
      rcases cuts_txt f f.length with ⟨_, h⟩ | ⟨h1, h2⟩
      · exact absurd h np
      · rw [show pTxt f = txt f f.length [] from if_neg h1] at hp
        rcases h2 with h2 | h2
        · rw [h2] at hp; exact .inr hp
        · rw [h2] at hp
          exact List.mem_cons.mp hp
    rcases hm with hm | hm
    · exact .inl hm
    · obtain ⟨j, hj, h0, rfl⟩ := prt_mem f _ _ hm
      have e : f.getD j 0 = f[j] := by simp [List.getD, hj]
      have b : (f.getD j 0).natAbs < 10 ^ 60 := by rw [e]; exact hf _ (List.getElem_mem _)
      exact .inr ((lterm_back b h0 (by omega)).trans (term_back (Nat.lt_trans b (by decide +kernel)) h0 (by omega)).symm)
  unfold lpoly
  rw [S0]
  exact B
def Rn (n : Nat) (w : List Nat) : Prop := ∀ i j, (∀ t, i ≤ t → t < j → ∃ c, w[t]? = some c ∧ 48 ≤ c ∧ c ≤ 57) → j ≤ i + n
theorem Rn.mono {m n : Nat} {w : List Nat} (h : Rn m w) (e : m ≤ n) : Rn n w := fun i j hj => by have := h i j hj; omega
theorem rn_len {n : Nat} {w : List Nat} (h : w.length ≤ n) : Rn n w := fun i j hj => by
  apply Classical.byContradiction
  intro z
  obtain ⟨c, e, _⟩ := hj (j - 1) (by omega) (by omega)
  have := (List.getElem?_eq_some_iff.mp e).1
  omega
theorem rn_app {m n : Nat} {a b : List Nat} (ha : Rn m a) (hb : Rn n b) : Rn (m + n) (a ++ b) := fun i j h => by
  have h1 := ha i (min j a.length) fun t h1 h2 => by
    obtain ⟨c, e, hc⟩ := h t h1 (by omega)
    rw [List.getElem?_append, if_pos (by omega)] at e
    exact ⟨c, e, hc⟩
  have h2 := hb (i - a.length) (j - a.length) fun t h1 h2 => by
    obtain ⟨c, e, hc⟩ := h (t + a.length) (by omega) (by omega)
    rw [List.getElem?_append, if_neg (by omega), Nat.add_sub_cancel] at e
    exact ⟨c, e, hc⟩
  omega
theorem rn_sep {n c : Nat} {a b : List Nat} (ha : Rn n a) (hb : Rn n b) (hc : c < 48 ∨ 57 < c) : Rn n (a ++ c :: b) := fun i j h => by
  by_cases h1 : j ≤ a.length
  · exact ha i j fun t h2 h3 => by
      obtain ⟨c, e, hc⟩ := h t h2 h3
      rw [List.getElem?_append, if_pos (by omega)] at e
      exact ⟨c, e, hc⟩
  · by_cases h2 : i ≤ a.length
    · obtain ⟨d, e, hd⟩ := h a.length h2 (by omega)
      rw [List.getElem?_append, if_neg (by omega), Nat.sub_self] at e
      simp at e
      omega
    · have := hb (i - a.length - 1) (j - a.length - 1) fun t h3 h4 => by
        obtain ⟨c, e, hc⟩ := h (t + a.length + 1) (by omega) (by omega)
        rw [List.getElem?_append, if_neg (by omega), show t + a.length + 1 - a.length = t + 1 by omega, List.getElem?_cons_succ] at e
        exact ⟨c, e, hc⟩
      omega
theorem rn_take {n : Nat} {w : List Nat} (h : Rn n w) (k : Nat) : Rn n (w.take k) := fun i j hj => h i j fun t h1 h2 => by
  obtain ⟨c, e, hc⟩ := hj t h1 h2
  rw [List.getElem?_take] at e
  split at e
  · exact ⟨c, e, hc⟩
  · cases e
theorem rn_drop {n : Nat} {w : List Nat} (h : Rn n w) (k : Nat) : Rn n (w.drop k) := fun i j hj => by
  have := h (i + k) (j + k) fun t h1 h2 => by
    obtain ⟨c, e, hc⟩ := hj (t - k) (by omega) (by omega)
    rw [List.getElem?_drop, show k + (t - k) = t by omega] at e
    exact ⟨c, e, hc⟩
  omega
theorem rn_inf {n : Nat} {u d v : List Nat} (h : Rn n (u ++ (d ++ v))) (hd : dgs d = true) : d.length ≤ n := by
  have := h u.length (u.length + d.length) fun t h1 h2 => by
    have ht : t - u.length < d.length := by omega
    refine ⟨d[t - u.length], ?_, ?_⟩
    · rw [List.getElem?_append, if_neg (by omega), List.getElem?_append, if_pos ht, List.getElem?_eq_getElem ht]
    · exact all_dg hd _ (List.getElem_mem _)
  omega
theorem body_rn {a : Int} {k : Nat} (ha : a.natAbs < 10 ^ 16) (hk : k < 100) : Rn 16 (bodyL a k) := by
  unfold bodyL
  have h1 := TL.numL_len (n := a.natAbs) (k := 16) (by decide) ha
  have h2 := TL.numL_len (n := k) (k := 2) (by decide) hk
  have r1 : Rn 16 (if k = 0 ∨ a.natAbs ≠ 1 then TL.numL a.natAbs else []) := rn_len (by split <;> (first | omega | simp))
  by_cases h0 : k = 0
  · rw [if_pos h0 (c := k = 0) (t := ([] : List Nat)), List.append_nil]; exact r1
  · rw [if_neg h0 (c := k = 0) (t := ([] : List Nat))]
    by_cases h3 : k = 1
    · rw [if_pos h3]; exact rn_sep r1 (rn_len (by simp)) (by omega)
    · rw [if_neg h3]; exact rn_sep r1 (rn_len (by simp; omega)) (by omega)
theorem txt_rn {f : List Int} (h16 : ∀ a ∈ f, a.natAbs < 10 ^ 16) (hl : f.length ≤ 13) : ∀ (k : Nat) (acc : List Nat), k ≤ f.length → Rn 16 acc → Rn 16 (txt f k acc)
  | 0, acc, _, h => h
  | k + 1, acc, hk, h => by
    simp only [txt]
    by_cases h0 : f.getD k 0 = 0
    · rw [if_pos h0]; exact txt_rn h16 hl k acc (by omega) h
    · rw [if_neg h0]
      have e : f.getD k 0 = f[k] := by simp [List.getD, show k < f.length by omega]
      have hb := body_rn (a := f.getD k 0) (k := k) (by rw [e]; exact h16 _ (List.getElem_mem _)) (by omega)
      refine txt_rn h16 hl k _ (by omega) ?_
      unfold markL
      by_cases hn : f.getD k 0 < 0
      · rw [if_pos hn]; exact rn_sep h hb (by omega)
      · rw [if_neg hn]
        by_cases ha : acc = []
        · rw [if_pos (decide_eq_true ha), ha]; exact hb
        · rw [if_neg (by rw [decide_eq_false ha]; decide)]; exact rn_sep h hb (by omega)
theorem pTxt_rn {f : List Int} (h16 : ∀ a ∈ f, a.natAbs < 10 ^ 16) (hl : f.length ≤ 13) : Rn 16 (pTxt f) := by
  unfold pTxt
  split
  · exact rn_len (by simp)
  · exact txt_rn h16 hl f.length [] (Nat.le_refl _) (rn_len (by simp))
theorem txt_ext (f : List Int) : ∀ (k : Nat) (acc : List Nat), ∃ r, txt f k acc = acc ++ r
  | 0, acc => ⟨[], by simp [txt]⟩
  | k + 1, acc => by
    simp only [txt]
    by_cases h0 : f.getD k 0 = 0
    · rw [if_pos h0]; exact txt_ext f k acc
    · rw [if_neg h0]
      obtain ⟨r, e⟩ := txt_ext f k (acc ++ (markL (f.getD k 0) (decide (acc = [])) ++ bodyL (f.getD k 0) k))
      exact ⟨_, by rw [e, List.append_assoc]⟩
theorem txt_has (f : List Int) {k : Nat} (h0 : f.getD k 0 ≠ 0) : ∀ (n : Nat) (acc : List Nat), k < n → ∃ u v, txt f n acc = u ++ (bodyL (f.getD k 0) k ++ v)
  | n + 1, acc, hk => by
    simp only [txt]
    by_cases hn : k = n
    · subst hn
      rw [if_neg h0]
      obtain ⟨r, e⟩ := txt_ext f k (acc ++ (markL (f.getD k 0) (decide (acc = [])) ++ bodyL (f.getD k 0) k))
      exact ⟨acc ++ markL (f.getD k 0) (decide (acc = [])), r, by rw [e]; simp only [List.append_assoc]⟩
    · exact txt_has f h0 n _ (by omega)
theorem num_small {n k : Nat} (h : (TL.numL n).length ≤ k) : n < 10 ^ k := by
  have h1 := val_lt (TL.numL n) 0 (TL.numL_digits n)
  have h2 := Nat.pow_le_pow_right (n := 10) (by decide) h
  have h3 := TL.numL_val n
  unfold NumText.digitsVal at h3
  omega
theorem small_of {g : List Int} {w : List Nat} (h : pTxt g = w) (hr : Rn 60 w) : C60 g := fun a ha => by
  obtain ⟨k, hk, e⟩ := List.getElem_of_mem ha
  by_cases a0 : a = 0
  · rw [a0]; decide +kernel
  by_cases a1 : a.natAbs = 1
  · rw [a1]; decide +kernel
  have eg : g.getD k 0 = a := by simp [List.getD, hk, e]
  have h0 : g.getD k 0 ≠ 0 := by rw [eg]; exact a0
  obtain ⟨u, v, et⟩ := txt_has g h0 g.length [] hk
  have bn := body_ne (g.getD k 0) k
  have ep : pTxt g = txt g g.length [] := if_neg fun z => by
    rw [et] at z
    exact bn (List.append_eq_nil_iff.mp (List.append_eq_nil_iff.mp z).2).1
  rw [← h, ep, et, eg] at hr
  unfold bodyL at hr
  rw [if_pos (.inr a1), List.append_assoc] at hr
  exact num_small (rn_inf hr (num_dgs _))
theorem two_same {w : List Nat} (ha : Asc w) (hl : w.length ≤ 500) (hr : Rn 60 w) : lpoly w = polyL w := by
  obtain ⟨_, h1⟩ := lpoly_eq ha hl
  obtain ⟨_, h2⟩ := poly_from_eq (w := w) ha (by omega)
  cases hp : polyL w with
  | some g =>
    obtain ⟨c1, c2, c3, c4⟩ := h2 g hp
    have := lback c3 (small_of c4 hr) c2
    rwa [c4] at this
  | none =>
    cases hq : lpoly w with
    | none => rfl
    | some g =>
      obtain ⟨c1, c2, c3, c4⟩ := h1 g hq
      have := back c3 c1.cf c2
      rw [c4, hp] at this
      cases this
def Sp (l l' : List Nat) : Prop := (∃ i j m, i ≤ j ∧ m.length ≤ 1 ∧ Asc m ∧ l' = l.take i ++ (m ++ l.drop j)) ∨ ∃ i, l' = l.drop i ++ l.take i
theorem Sp.asc {l l' : List Nat} (h : Sp l l') (ha : Asc l) : Asc l' := by
  rcases h with ⟨i, j, m, _, _, hm, rfl⟩ | ⟨i, rfl⟩
  · exact asc_app (asc_take ha _) (asc_app hm (asc_drop ha _))
  · exact asc_app (asc_drop ha _) (asc_take ha _)
theorem Sp.len {l l' : List Nat} (h : Sp l l') : l'.length ≤ l.length + 1 := by
  rcases h with ⟨i, j, m, _, _, hm, rfl⟩ | ⟨i, rfl⟩
  · simp only [List.length_append, List.length_take, List.length_drop]; omega
  · simp only [List.length_append, List.length_take, List.length_drop]; omega
def S3 (w : List Nat) : Prop := ∃ a m b, w = a ++ (m ++ b) ∧ Rn 16 a ∧ Rn 16 b ∧ m.length ≤ 1
theorem Sp.s3 {l l' : List Nat} (h : Sp l l') (hr : Rn 16 l) : S3 l' := by
  rcases h with ⟨i, j, m, _, hm, _, rfl⟩ | ⟨i, rfl⟩
  · exact ⟨_, _, _, rfl, rn_take hr _, rn_drop hr _, hm⟩
  · exact ⟨_, [], _, rfl, rn_drop hr _, rn_take hr _, by simp⟩
theorem S3.rn {w : List Nat} (h : S3 w) : Rn 33 w := by
  obtain ⟨a, m, b, rfl, ha, hb, hm⟩ := h
  exact (rn_app ha (rn_app (rn_len hm) hb)).mono (by omega)
theorem S3.cut {w : List Nat} (h : S3 w) {i j : Nat} (hij : i ≤ j) : ∃ p q, Rn p (w.take i) ∧ Rn q (w.drop j) ∧ p + q ≤ 49 := by
  have hr := h.rn
  obtain ⟨a, m, b, rfl, ha, hb, hm⟩ := h
  by_cases hi : i ≤ a.length
  · refine ⟨16, 33, ?_, rn_drop hr _, by omega⟩
    rw [List.take_append_of_le_length hi]
    exact rn_take ha _
  · refine ⟨33, 16, rn_take hr _, ?_, by omega⟩
    have e : (a ++ (m ++ b)).drop j = b.drop (j - a.length - m.length) := by
      rw [List.drop_append, List.drop_eq_nil_of_le (show a.length ≤ j by omega), List.nil_append, List.drop_append, List.drop_eq_nil_of_le (show m.length ≤ j - a.length by omega), List.nil_append]
    rw [e]
    exact rn_drop hb _
theorem Sp.rn {w w' : List Nat} (h : Sp w w') (hs : S3 w) : Rn 60 w' := by
  rcases h with ⟨i, j, m, hij, hm, _, rfl⟩ | ⟨i, rfl⟩
  · obtain ⟨p, q, hp, hq, hpq⟩ := hs.cut hij
    exact (rn_app hp (rn_app (rn_len hm) hq)).mono (by omega)
  · obtain ⟨p, q, hp, hq, hpq⟩ := hs.cut (Nat.le_refl i)
    exact (rn_app hq hp).mono (by omega)
theorem marks17 : ("0123456789x^+- ./" : Str) = S [48, 49, 50, 51, 52, 53, 54, 55, 56, 57, 120, 94, 43, 45, 32, 46, 47] := by decide +kernel
theorem spoilt_spec {n : Int} {b : Bag} {l : List Nat} (ok : BagOk n b) (ha : Asc l) (hl : l.length ≤ 450) (hn : n + 4 ≤ 1000000000 := by omega) : ∃ v l', y__law_spoiltS b (S l) = some v ∧ v.1 = S l' ∧ Sp l l' ∧ BagOk (n + 4) v.2 := by
  obtain ⟨t1, e1, h1, ok1⟩ := take_spec ok ((l.length : Int) + 1)
  obtain ⟨t2, e2, h2, ok2⟩ := take_spec ok1 17
  obtain ⟨t4, e4, h4, ok4⟩ := take_spec ok2 4
  obtain ⟨i, hi⟩ : ∃ i : Nat, t1.1 = (i : Int) := ⟨t1.1.toNat, by omega⟩
  have hm : ∃ c, ixS ("0123456789x^+- ./" : Str) t2.1 = some (S [c]) ∧ c < 128 := by
    rw [marks17]
    have e : t2.1 = ((t2.1.toNat : Nat) : Int) := by omega
    rw [e, ixS_S (by simp; omega) (by simp)]
    refine ⟨_, rfl, ?_⟩
    have : ∀ c ∈ [48, 49, 50, 51, 52, 53, 54, 55, 56, 57, 120, 94, 43, 45, 32, 46, 47], c < 128 := by decide
    exact this _ (List.getElem_mem _)
  obtain ⟨c, e3, hc⟩ := hm
  have ac : Asc [c] := fun d hd => by rw [List.mem_singleton] at hd; omega
  have st : slS (S l) none (some t1.1) = some (S (l.take i)) := by rw [hi]; exact slS_to (by omega) (by omega)
  have sf : slS (S l) (some t1.1) none = some (S (l.drop i)) := by rw [hi]; exact slS_fr (by omega) (by omega)
  have sf1 : slS (S l) (some (t1.1 + 1)) none = some (S (l.drop (i + 1))) := by rw [hi]; exact slS_fr (i := (i : Int) + 1) (by omega) (by omega)
  have lt : (l.take i).length ≤ 450 := by rw [List.length_take]; omega
  have ld : ∀ j, (l.drop j).length ≤ 450 := fun j => by rw [List.length_drop]; omega
  have ldi := ld i
  have ldi1 := ld (i + 1)
  unfold y__law_spoiltS
  by_cases w0 : t4.1 = 0
  · exact ⟨_, _, bstep (lenS_S (by omega)) (bstep e1 (bstep e2 (bstep e3 (bstep e4 (ite_t (decide_eq_true w0) (bstep st (bstep (catS_S (by simp only [List.length_singleton]; omega)) (bstep sf (bstep (catS_S (by simp only [List.length_append, List.length_singleton]; omega)) rfl))))))))), rfl, .inl ⟨i, i, [c], Nat.le_refl _, by simp, ac, by rw [List.append_assoc]⟩, ok4.mono (by omega)⟩
  by_cases w1 : t4.1 = 1
  · exact ⟨_, _, bstep (lenS_S (by omega)) (bstep e1 (bstep e2 (bstep e3 (bstep e4 (ite_f (decide_eq_false w0) (ite_t (decide_eq_true w1) (bstep st (bstep sf1 (bstep (catS_S (by omega)) rfl))))))))), rfl, .inl ⟨i, i + 1, [], by omega, by simp, (fun _ h => by cases h), rfl⟩, ok4.mono (by omega)⟩
  by_cases w2 : t4.1 = 2
  · exact ⟨_, _, bstep (lenS_S (by omega)) (bstep e1 (bstep e2 (bstep e3 (bstep e4 (ite_f (decide_eq_false w0) (ite_f (decide_eq_false w1) (ite_t (decide_eq_true w2) (bstep st (bstep (catS_S (by simp only [List.length_singleton]; omega)) (bstep sf1 (bstep (catS_S (by simp only [List.length_append, List.length_singleton]; omega)) rfl))))))))))), rfl, .inl ⟨i, i + 1, [c], by omega, by simp, ac, by rw [List.append_assoc]⟩, ok4.mono (by omega)⟩
  obtain ⟨t5, e5, h5, ok5⟩ := take_spec ok4 ((l.length : Int) + 1)
  obtain ⟨q, hq⟩ : ∃ q : Nat, min t1.1 t5.1 = (q : Int) := ⟨(min t1.1 t5.1).toNat, by omega⟩
  have ldq := ld q
  have ltq : (l.take q).length ≤ 450 := by rw [List.length_take]; omega
  exact ⟨_, _, bstep (lenS_S (by omega)) (bstep e1 (bstep e2 (bstep e3 (bstep e4 (ite_f (decide_eq_false w0) (ite_f (decide_eq_false w1) (ite_f (decide_eq_false w2) (bstep (lenS_S (by omega)) (bstep e5 (bstep (x := S (l.drop q)) (by rw [hq]; exact slS_fr (by omega) (by omega)) (bstep (x := S (l.take q)) (by rw [hq]; exact slS_to (by omega) (by omega)) (bstep (catS_S (by omega)) rfl)))))))))))), rfl, .inr ⟨q, rfl⟩, ok5.mono (by omega)⟩
theorem forC_bag {α τ : Type} {bd : Bag → α → Option (Ctl Bag τ)} {c : Int} (hc : 0 ≤ c) (hf : ∀ n b x, BagOk n b → n + c ≤ 1000000000 → ∃ v, bd b x = some (.nx v) ∧ BagOk (n + c) v) : ∀ (xs : List α) {n : Int} {b : Bag}, BagOk n b → n + c * xs.length ≤ 1000000000 → ∃ v, forC bd xs b = some (.nx v) ∧ BagOk (n + c * xs.length) v
  | [], n, b, ok, hn => ⟨b, rfl, ok.mono (by simp)⟩
  | x :: xs, n, b, ok, hn => by
    have e0 : c * ((x :: xs).length : Int) = c * (xs.length : Int) + c := by rw [List.length_cons]; grind
    have e1 : 0 ≤ c * (xs.length : Int) := Int.mul_nonneg hc (by omega)
    obtain ⟨v, e, okv⟩ := hf n b x ok (by omega)
    obtain ⟨w, e2, okw⟩ := forC_bag hc hf xs okv (by omega)
    exact ⟨w, bstep e e2, okw.mono (by omega)⟩
theorem step51 {n : Int} {b : Bag} {l : List Nat} {x : Int} (ha : Asc l) (hl : l.length ≤ 300) (hr : Rn 16 l) (ok : BagOk n b) (hn : n + 9 ≤ 1000000000) : ∃ v, y_law_k51_b1 (S l) b x = some (.nx v) ∧ BagOk (n + 9) v := by
  obtain ⟨v, l1, e1, hv, s1, ok1⟩ := spoilt_spec ok ha (by omega)
  obtain ⟨t, e2, ht, ok2⟩ := take_spec ok1 2
  have len1 := s1.len
  have hj : ∃ j l2, (if (decide (t.1 = (0 : Int))) = true then Option.bind (y__law_spoiltS t.2 v.1) fun t12 => some (t12.1, t12.2) else some (v.1, t.2)) = some j ∧ j.1 = S l2 ∧ Asc l2 ∧ l2.length ≤ 400 ∧ Rn 60 l2 ∧ BagOk (n + 9) j.2 := by
    by_cases h0 : t.1 = 0
    · obtain ⟨w, l2, e3, hw, s2, ok3⟩ := spoilt_spec (l := l1) ok2 (s1.asc ha) (by omega)
      have len2 := s2.len
      rw [hv]
      exact ⟨_, l2, ite_t (decide_eq_true h0) (bstep e3 rfl), hw, s2.asc (s1.asc ha), by omega, s2.rn (s1.s3 hr), ok3.mono (by omega)⟩
    · exact ⟨_, l1, ite_f (decide_eq_false h0) rfl, hv, s1.asc ha, by omega, (s1.s3 hr).rn.mono (by omega), ok2.mono (by omega)⟩
  obtain ⟨j, w, e3, hj, aw, lw, rw', okj⟩ := hj
  refine ⟨j.2, ?_, okj⟩
  have q1 := (lpoly_eq aw (by omega)).1
  have q2 := read_eq aw (by omega)
  obtain ⟨_, h2⟩ := poly_from_eq (w := w) aw (by omega)
  rw [two_same aw (by omega) rw'] at q1
  unfold y_law_k51_b1
  refine bstep e1 (bstep e2 (bstep e3 ?_))
  rw [hj]
  refine bstep q1 (bstep q2 ?_)
  unfold readL
  cases hp : polyL w with
  | none => exact bstep (x := .tuple [.str "refused", .str "NoText"]) rfl (bstep (ite_t rfl (bstep (show eqC _ _ = some true by decide +kernel) rfl)) (ite_f rfl (bstep (ite_f rfl rfl) (ite_f rfl rfl))))
  | some g =>
    obtain ⟨c1, c2, c3, c4⟩ := h2 g hp
    have pg : pl 12 (.tuple [.str "told", eT PyData.int g]) := pl_tuple.mpr ⟨by simp, fun d hd => by
      simp only [List.mem_cons, List.not_mem_nil, or_false] at hd
      rcases hd with rfl | rfl
      · exact pl_str _ _ (by decide +kernel)
      · exact pl_ints 10 (by omega)⟩
    exact bstep (x := .tuple [.str "told", eT PyData.int g]) rfl (bstep (ite_f rfl rfl) (ite_f rfl (bstep (ite_t rfl (bstep (sameC_refl pg) rfl)) (ite_f rfl rfl))))
theorem m_law_k51 (b : Bag) (ok : BagOk 100000 b) : y_law_k51 b = some (.nx ()) := by
  obtain ⟨t, e, ht, ok1⟩ := take_spec ok 14
  have e1 : rng1 t.1 = some (rngZ 0 t.1.toNat) := rng1_eq (by omega) (by omega)
  have l1 := rngZ_len 0 t.1.toNat
  obtain ⟨row, e6, hlr, hrow, okr⟩ := mapBC_spec (f := fun b1 (x1 : Int) => (Option.bind (y__law_int b1) fun t2 => Option.bind (y__law_wide t2.2) fun t3 => Option.bind (takeC t3.2 (5 : Int)) fun t4 => Option.bind (atI [(0 : Int), (1 : Int), (-(1 : Int)), t2.1, t3.1] t4.1) fun t5 => some (t5, t4.2))) (post := fun z => z.natAbs < 10 ^ 16) 6 (xs := rngZ 0 t.1.toNat) (fun n b x _ ok hn => by
    obtain ⟨v, ev, hv, okv⟩ := int_spec ok
    obtain ⟨u, eu, hu, oku⟩ := wide_spec okv
    obtain ⟨q, eq, hq, okq⟩ := take_spec oku 5
    obtain ⟨a, ea, hm, _⟩ := atI_pos (xs := [(0 : Int), (1 : Int), (-(1 : Int)), v.1, u.1]) (i := q.1) (by omega) (by simp; omega)
    refine ⟨(a, q.2), bstep ev (bstep eu (bstep eq (bstep ea rfl))), ?_, okq.mono (by omega)⟩
    simp only [List.mem_cons, List.not_mem_nil, or_false] at hm
    show a.natAbs < 10 ^ 16
    rcases hm with rfl | rfl | rfl | rfl | rfl <;> omega) ok1 (by omega) (by omega)
  have h16 : ∀ a ∈ trimZ row.1, a.natAbs < 10 ^ 16 := fun a ha => hrow a (trimZ_mem ha)
  have hlf : (trimZ row.1).length ≤ 13 := Nat.le_trans (trimZ_len _) (by omega)
  generalize hf : trimZ row.1 = f at h16 hlf
  have cf : Cf f := fun a ha => Nat.lt_trans (h16 a ha) (by decide +kernel)
  obtain ⟨asc, len⟩ := pTxt_ok h16 hlf
  have rn := pTxt_rn h16 hlf
  rw [l1] at okr
  obtain ⟨v, e9, _⟩ := forC_bag (bd := y_law_k51_b1 (S (pTxt f))) (c := 9) (by decide) (fun n b x ok hn => step51 asc len rn ok hn) (rngZ 0 (10 : Int).toNat) okr (by rw [rngZ_len]; show _ + 9 * ((10 : Nat) : Int) ≤ _; omega)
  unfold y_law_k51
  exact bstep e (bstep e1 (bstep e6 (bstep (by rw [← hf]; exact law_trim_eq _) (bstep (law_text_eq cf hlf) (bstep (rng1_eq (by decide) (by decide)) (bstep e9 rfl))))))
end AM

set_option Elab.async false
set_option linter.all false
set_option maxRecDepth 100000
set_option maxHeartbeats 4000000
namespace LW
open PySem PySem.Spec PyProof.Rows L2 AM
def topS (i : Nat) : Stmt := PySem.Challenge.pw_trueroots_k51_whole_polynomial_texts_spo.main.body.getD i (.Pass ⟨0, 0, 0, 0⟩)
abbrev s_trimmed : Stmt := topS 6
abbrev s_degree_of : Stmt := topS 7
abbrev s_term_text : Stmt := topS 9
abbrev s_poly_text : Stmt := topS 10
abbrev s_whole_from : Stmt := topS 13
abbrev s_term_from : Stmt := topS 14
abbrev s_poly_from : Stmt := topS 15
abbrev s_read_poly : Stmt := topS 16
abbrev s__law_well : Stmt := topS 18
abbrev s__law_take : Stmt := topS 19
abbrev s__law_bags : Stmt := topS 20
abbrev s__law_same : Stmt := topS 21
abbrev s__law_int : Stmt := topS 22
abbrev s__law_wide : Stmt := topS 23
abbrev s__law_trim : Stmt := topS 24
abbrev s__law_poly_text : Stmt := topS 25
abbrev s__law_ask : Stmt := topS 26
abbrev s__law_whole_of : Stmt := topS 27
abbrev s__law_one_part : Stmt := topS 28
abbrev s__law_poly_in : Stmt := topS 29
abbrev s__law_spoilt : Stmt := topS 30
abbrev s_law : Stmt := topS 31

section
variable {a_RootError a_NoSuch a_NoText : Addr}
section
variable {cl : Xn → Addr}
section
variable {P : Program} {w : World} {K : PySem.W.Frag} {mg : Str → Option Value} {base : Heap} {k : Nat}
theorem sc_trimmed : FnScope ["some", "many"] ["some"] (defScope s_trimmed) := ⟨rfl, rfl, rfl, by decide +kernel, rfl, by decide +kernel, by decide +kernel⟩
theorem c_trimmed (D : Def K mg "trimmed" s_trimmed ["some"]) (B : Bt mg) : Cal P w K mg base (k + 1) "trimmed" ["some"] (spP K (RY1 (eL PyData.int) (eT PyData.int) y_trimmed))  := by
  refine cal_pure D sc_trimmed (fun ds r h => ?_) (by decide) (fun f cdv A outer s H G E ds r hr h => ?_)
  · obtain ⟨_, _, rfl, _⟩ := h; rfl
  · obtain ⟨v_some, v, rfl, h, rfl⟩ := h
    refine ds_to (Γ := [.dat ((eL PyData.int) v_some), .no]) ?_ rfl
    obtain ⟨v_many, e_v_many, h⟩ := bs h
    refine y_set (en := PyData.int) (v := (v_some.length : Int)) 1 (sm e_v_many) (y_len (xs := v_some) (en := PyData.int) (de_var 0) B) ?_ sc_trimmed.nd
    obtain ⟨r, e_r, h⟩ := bs h
    refine y_while (fun s : Int => [.dat ((eL PyData.int) v_some), .dat (PyData.int s)]) _ _ e_r (passes_of rfl) (fun s v h => by obtain ⟨t1, e_t1, h⟩ := bs h; exact y_t (PW.pt (y_wand (w := t1) (dt_gt (de_var 1) de_int) (fun hk => by have h := ifT e_t1 hk; obtain ⟨t, e_t, h⟩ := bs h; have h := sm h; subst h; exact (dw_and1 (dt_eqI (y_ix (en := PyData.int) (de_var 0) (de_sub (de_var 1) de_int) e_t) de_int))) (fun hk => ⟨(sm (ifF e_t1 hk)).symm, rfl⟩))) (sm h)) (fun s s' h => ?_) ?_
    · clear e_r
      obtain ⟨v_many1, e_v_many1, h⟩ := bs h
      refine y_set (en := PyData.int) (v := (s - (1 : Int))) 1 (sm e_v_many1) (de_sub (de_var 1) de_int) ?_ sc_trimmed.nd
      have h := sm h
      subst h
      exact ds_nil rfl
    exact ds_ret (d := ((eT PyData.int) (cutZ v_some none (some r)))) (y_tuple (xs := (cutZ v_some none (some r))) (en := PyData.int) (de_fz (y_slL (en := PyData.int) (de_var 0) do_none (do_some (de_var 1)))) B) (by
      have h := sm h
      subst h
      exact rfl)

theorem sc_degree_of : FnScope ["poly"] ["poly"] (defScope s_degree_of) := ⟨rfl, rfl, rfl, by decide +kernel, rfl, by decide +kernel, by decide +kernel⟩
theorem c_degree_of (D : Def K mg "degree_of" s_degree_of ["poly"]) (B : Bt mg) : Cal P w K mg base (k + 1) "degree_of" ["poly"] (spP K (RY1 (eT PyData.int) PyData.int y_degree_of))  := by
  refine cal_pure D sc_degree_of (fun ds r h => ?_) (by decide) (fun f cdv A outer s H G E ds r hr h => ?_)
  · obtain ⟨_, _, rfl, _⟩ := h; rfl
  · obtain ⟨v_poly, v, rfl, h, rfl⟩ := h
    refine ds_to (Γ := [.dat ((eT PyData.int) v_poly)]) ?_ rfl
    exact ds_ret (d := (PyData.int ((v_poly.length : Int) - (1 : Int)))) (de_sub (y_len (xs := v_poly) (en := PyData.int) (de_var 0) B) de_int) (by
      have h := sm h
      subst h
      exact rfl)

theorem sc_term_text : FnScope ["one", "power", "first", "mark", "many"] ["one", "power", "first"] (defScope s_term_text) := ⟨rfl, rfl, rfl, by decide +kernel, rfl, by decide +kernel, by decide +kernel⟩
theorem c_term_text (D : Def K mg "term_text" s_term_text ["one", "power", "first"]) (B : Bt mg) : Cal P w K mg base (k + 1) "term_text" ["one", "power", "first"] (spP K (RY3 PyData.int PyData.int PyData.bool PyData.str y_term_text))  := by
  refine cal_pure D sc_term_text (fun ds r h => ?_) (by decide) (fun f cdv A outer s H G E ds r hr h => ?_)
  · obtain ⟨_, _, _, _, rfl, _⟩ := h; rfl
  · obtain ⟨v_one, v_power, v_first, v, rfl, h, rfl⟩ := h
    refine ds_to (Γ := [.dat (PyData.int v_one), .dat (PyData.int v_power), .dat (PyData.bool v_first), .no, .no]) ?_ rfl
    obtain ⟨v_mark, e_v_mark, h⟩ := bs h
    refine y_set (en := PyData.str) (v := (if (decide (v_one < (0 : Int))) = true then ("-" : Str) else (if v_first = true then ("" : Str) else ("+" : Str)))) 3 (sm e_v_mark) (de_if (dt_lt (de_var 0) de_int) (fun hk => y_as (en := PyData.str) de_str (if_pos hk).symm) (fun hk => y_as (en := PyData.str) (de_if (dt_b (de_var 2)) (fun hk => y_as (en := PyData.str) de_str (if_pos hk).symm) (fun hk => y_as (en := PyData.str) de_str (if_neg (by rw [hk]; decide)).symm)) (if_neg (by rw [hk]; decide)).symm)) ?_ sc_term_text.nd
    obtain ⟨t1, e_t1, h⟩ := bs h
    refine y_set (en := PyData.str) (v := t1) 4 rfl (de_if (PW.pt (dw_or (dt_eqI (de_var 1) de_int) fun _ => (dw_or1 (dt_neI (de_abs (de_var 0) B.abs) de_int)))) (fun hk => by have h := ifT e_t1 hk; obtain ⟨t, e_t, h⟩ := bs h; exact y_as (en := PyData.str) (y_f1 (y_fmtI (de_abs (de_var 0) B.abs) e_t)) (sm h)) (fun hk => by have h := ifF e_t1 hk; exact y_as (en := PyData.str) de_str (sm h))) ?_ sc_term_text.nd
    refine ds_if (dt_eqI (de_var 1) de_int) (fun hc => ?_) (fun hc => ?_)
    · have h := ifT h hc
      obtain ⟨t2, e_t2, h⟩ := bs h
      obtain ⟨t3, e_t3, h⟩ := bs h
      obtain ⟨t4, e_t4, h⟩ := bs h
      exact ds_ret (d := (PyData.str t4)) (y_joined (DJ.cons (y_fmtS (de_var 3) e_t2) (DJ.cons (y_fmtS (de_var 4) e_t3) DJ.nil)) e_t4) (by
        have h := sm h
        subst h
        exact rfl)
    · have h := ifF h hc
      refine ds_nil ?_
      obtain ⟨t12, e_t12, h⟩ := bs h
      exact ds_ret (d := (PyData.str t12)) (de_if (dt_eqI (de_var 1) de_int) (fun hk => by have h := ifT e_t12 hk; obtain ⟨t5, e_t5, h⟩ := bs h; obtain ⟨t6, e_t6, h⟩ := bs h; obtain ⟨t7, e_t7, h⟩ := bs h; exact y_as (en := PyData.str) (y_joined (DJ.cons (y_fmtS (de_var 3) e_t5) (DJ.cons (y_fmtS (de_var 4) e_t6) (DJ.cons de_str DJ.nil))) e_t7) (sm h)) (fun hk => by have h := ifF e_t12 hk; obtain ⟨t8, e_t8, h⟩ := bs h; obtain ⟨t9, e_t9, h⟩ := bs h; obtain ⟨t10, e_t10, h⟩ := bs h; obtain ⟨t11, e_t11, h⟩ := bs h; exact y_as (en := PyData.str) (y_joined (DJ.cons (y_fmtS (de_var 3) e_t8) (DJ.cons (y_fmtS (de_var 4) e_t9) (DJ.cons de_str (DJ.cons (y_fmtI (de_var 1) e_t10) DJ.nil)))) e_t11) (sm h))) (by
        have h := sm h
        subst h
        exact rfl)

theorem sc_poly_text : FnScope ["poly", "found", "k"] ["poly"] (defScope s_poly_text) := ⟨rfl, rfl, rfl, by decide +kernel, rfl, by decide +kernel, by decide +kernel⟩
theorem c_poly_text (D : Def K mg "poly_text" s_poly_text ["poly"]) (B : Bt mg) (C_degree_of : Cal P w K mg base k "degree_of" ["poly"] (spP K (RY1 (eT PyData.int) PyData.int y_degree_of))) (C_term_text : Cal P w K mg base k "term_text" ["one", "power", "first"] (spP K (RY3 PyData.int PyData.int PyData.bool PyData.str y_term_text))) : Cal P w K mg base (k + 1) "poly_text" ["poly"] (spP K (RY1 (eT PyData.int) PyData.str y_poly_text))  := by
  refine cal_pure D sc_poly_text (fun ds r h => ?_) (by decide) (fun f cdv A outer s H G E ds r hr h => ?_)
  · obtain ⟨_, _, rfl, _⟩ := h; rfl
  · obtain ⟨v_poly, v, rfl, h, rfl⟩ := h
    refine ds_to (Γ := [.dat ((eT PyData.int) v_poly), .no, .no]) ?_ rfl
    obtain ⟨v_found, e_v_found, h⟩ := bs h
    refine y_set (en := PyData.str) (v := ("" : Str)) 1 (sm e_v_found) de_str ?_ sc_poly_text.nd
    obtain ⟨t, e_t, h⟩ := bs h
    obtain ⟨t1, e_t1, h⟩ := bs h
    obtain ⟨r, e_r, h⟩ := bs h
    refine y_for (en := PyData.int) (fun s : Str => [.dat ((eT PyData.int) v_poly), .dat (PyData.str s), .no]) _ e_r (yi_range3 (dc C_degree_of hr (da_cons (de_var 0) da_nil) ⟨_, _, rfl, e_t, rfl⟩) (de_sub de_int de_int) (de_sub de_int de_int) B e_t1) (pt_name 2 sc_poly_text.nd) (passes_of rfl) (fun s x s' h => ⟨_, ⟨rfl, rfl, rfl⟩, ?_⟩) ?_
    · clear e_r
      obtain ⟨t2, e_t2, h⟩ := bs h
      refine ds_if (dt_neI (y_ix (en := PyData.int) (de_var 0) (de_var 2) e_t2) de_int) (fun hc => ?_) (fun hc => ?_)
      · have h := ifT h hc
        obtain ⟨t3, e_t3, h⟩ := bs h
        obtain ⟨t4, e_t4, h⟩ := bs h
        obtain ⟨t5, e_t5, h⟩ := bs h
        refine y_set (en := PyData.str) (v := t5) 1 rfl (y_addS (de_var 1) (dc C_term_text hr (da_cons (y_ix (en := PyData.int) (de_var 0) (de_var 2) e_t3) (da_cons (de_var 2) (da_cons (de_eqS (de_var 1) de_str) da_nil))) ⟨_, _, _, _, rfl, e_t4, rfl⟩) e_t5) ?_ sc_poly_text.nd
        refine ds_nil ?_
        have h := sm h
        subst h
        refine ds_drop 2 ?_
        exact ds_nil rfl
      · have h := ifF h hc
        refine ds_nil ?_
        have h := sm h
        subst h
        refine ds_drop 2 ?_
        exact ds_nil rfl
    exact ds_ret (d := (PyData.str (if (decide (r = ("" : Str))) = true then ("0" : Str) else r))) (de_if (dt_eqS (de_var 1) de_str) (fun hk => y_as (en := PyData.str) de_str (if_pos hk).symm) (fun hk => y_as (en := PyData.str) (de_var 1) (if_neg (by rw [hk]; decide)).symm)) (by
      have h := sm h
      subst h
      exact rfl)

theorem sc_whole_from : FnScope ["word", "figures"] ["word"] (defScope s_whole_from) := ⟨rfl, rfl, rfl, by decide +kernel, rfl, by decide +kernel, by decide +kernel⟩
theorem c_whole_from (D : Def K mg "whole_from" s_whole_from ["word"]) (B : Bt mg) (m_MOST_FIGURES : ∃ t, mg "MOST_FIGURES" = some (.int 400 t)) : Cal P w K mg base (k + 1) "whole_from" ["word"] (spP K (RY1 PyData.str (eO PyData.int) y_whole_from))  := by
  obtain ⟨t_MOST_FIGURES, m_MOST_FIGURES⟩ := m_MOST_FIGURES
  refine cal_pure D sc_whole_from (fun ds r h => ?_) (by decide) (fun f cdv A outer s H G E ds r hr h => ?_)
  · obtain ⟨_, _, rfl, _⟩ := h; rfl
  · obtain ⟨v_word, v, rfl, h, rfl⟩ := h
    refine ds_to (Γ := [.dat (PyData.str v_word), .no]) ?_ rfl
    obtain ⟨t1, e_t1, h⟩ := bs h
    refine y_set (en := PyData.str) (v := t1) 1 rfl (de_if (dt_b (y_startswith (de_var 0) de_str)) (fun hk => by have h := ifT e_t1 hk; obtain ⟨t, e_t, h⟩ := bs h; exact y_as (en := PyData.str) (y_slS (de_var 0) (do_some de_int) do_none e_t) (sm h)) (fun hk => by have h := ifF e_t1 hk; exact y_as (en := PyData.str) (de_var 0) (sm h))) ?_ sc_whole_from.nd
    obtain ⟨t2, e_t2, h⟩ := bs h
    refine ds_if (PW.pt (dw_or (dt_not (y_tlele de_int (y_lenS (de_var 1) e_t2 B) (de_globI m_MOST_FIGURES ⟨_, rfl⟩))) fun _ => (dw_or (dt_not (dt_b (y_isdigit (de_var 1)))) fun _ => (dw_or1 (PW.pt (dw_and (dt_b (y_startswith (de_var 1) de_str)) fun _ => (dw_and1 (dt_neS (de_var 0) de_str)))))))) (fun hc => ?_) (fun hc => ?_)
    · have h := ifT h hc
      exact ds_ret (d := ((eO PyData.int) none)) de_non (by
        have h := sm h
        subst h
        exact rfl)
    · have h := ifF h hc
      refine ds_nil ?_
      obtain ⟨t3, e_t3, h⟩ := bs h
      exact ds_ret (d := ((eO PyData.int) (some t3))) (y_intS (de_var 0) e_t3 B.int) (by
        have h := sm h
        subst h
        exact rfl)

theorem sc_term_from : FnScope ["part", "head", "mark", "tail", "one", "power"] ["part"] (defScope s_term_from) := ⟨rfl, rfl, rfl, by decide +kernel, rfl, by decide +kernel, by decide +kernel⟩
theorem c_term_from (D : Def K mg "term_from" s_term_from ["part"]) (m_MOST_DEGREE : ∃ t, mg "MOST_DEGREE" = some (.int 12 t)) (C_whole_from : Cal P w K mg base k "whole_from" ["word"] (spP K (RY1 PyData.str (eO PyData.int) y_whole_from))) : Cal P w K mg base (k + 1) "term_from" ["part"] (spP K (RY1 PyData.str (eO (eP PyData.int PyData.int)) y_term_from))  := by
  obtain ⟨t_MOST_DEGREE, m_MOST_DEGREE⟩ := m_MOST_DEGREE
  refine cal_pure D sc_term_from (fun ds r h => ?_) (by decide) (fun f cdv A outer s H G E ds r hr h => ?_)
  · obtain ⟨_, _, rfl, _⟩ := h; rfl
  · obtain ⟨v_part, v, rfl, h, rfl⟩ := h
    refine ds_to (Γ := [.dat (PyData.str v_part), .no, .no, .no, .no, .no]) ?_ rfl
    obtain ⟨t, e_t, h⟩ := bs h
    refine ds_unp3 1 2 3 (y_partition (de_var 0) de_str e_t) ?_ sc_term_from.nd
    obtain ⟨t2, e_t2, h⟩ := bs h
    obtain ⟨t3, e_t3, h⟩ := bs h
    refine y_set (en := (eO PyData.int)) (v := t3) 4 rfl (dc C_whole_from hr (da_cons (de_if (PW.pt (dw_and (y_tinS (x := t.1) (ys := [("" : Str), ("-" : Str)]) (de_var 1) (y_tup (ds := [(PyData.str ("" : Str)), (PyData.str ("-" : Str))]) (da_cons de_str (da_cons de_str da_nil)))) fun _ => (dw_and1 (dt_eqS (de_var 2) de_str)))) (fun hk => by have h := ifT e_t2 hk; obtain ⟨t1, e_t1, h⟩ := bs h; exact y_as (en := PyData.str) (y_addS (de_var 1) de_str e_t1) (sm h)) (fun hk => by have h := ifF e_t2 hk; exact y_as (en := PyData.str) (de_var 1) (sm h))) da_nil) ⟨_, _, rfl, e_t3, rfl⟩) ?_ sc_term_from.nd
    obtain ⟨v_power, e_v_power, h⟩ := bs h
    refine y_set (en := (eO PyData.int)) (v := (if (decide (t.2.1 = ("" : Str))) = true then (some (0 : Int)) else (some (1 : Int)))) 5 (sm e_v_power) (de_if (dt_eqS (de_var 2) de_str) (fun hk => y_as (en := (eO PyData.int)) de_int (if_pos hk).symm) (fun hk => y_as (en := (eO PyData.int)) de_int (if_neg (by rw [hk]; decide)).symm)) ?_ sc_term_from.nd
    obtain ⟨j, e_j, h⟩ := bs h
    refine ds_cut (fun Γ => Γ = [.dat (PyData.str v_part), .dat (PyData.str t.1), .dat (PyData.str t.2.1), .dat (PyData.str t.2.2), .dat ((eO PyData.int) t3), .dat ((eO PyData.int) j)]) (fun Γ hJ => ?_) (fun tail => ?_)
    rotate_left
    · have h := e_j
      refine ds_if (dt_neS (de_var 3) de_str) (fun hc => ?_) (fun hc => ?_)
      · have h := ifT h hc
        obtain ⟨t6, e_t6, h⟩ := bs h
        refine y_set (en := (eO PyData.int)) (v := t6) 5 rfl (de_if (dt_b (y_startswith (de_var 3) de_str)) (fun hk => by have h := ifT e_t6 hk; obtain ⟨t4, e_t4, h⟩ := bs h; obtain ⟨t5, e_t5, h⟩ := bs h; exact y_as (en := (eO PyData.int)) (dc C_whole_from hr (da_cons (y_slS (de_var 3) (do_some de_int) do_none e_t4) da_nil) ⟨_, _, rfl, e_t5, rfl⟩) (sm h)) (fun hk => by have h := ifF e_t6 hk; exact y_as (en := (eO PyData.int)) de_non (sm h))) ?_ sc_term_from.nd
        have h := sm h
        subst h
        exact ds_skip (tail _ rfl)
      · have h := ifF h hc
        have h := sm h
        subst h
        exact ds_skip (tail _ rfl)
    subst hJ
    obtain ⟨t9, e_t9, h⟩ := bs h
    refine ds_if (PW.pt (y_wor (w := t9) (y_t (dt_isN (de_var 4)) (isNon_O (en := PyData.int) (fun _ => rfl) t3)) (fun hk => by have h := ifF e_t9 hk; obtain ⟨t8, e_t8, h⟩ := bs h; have h := sm h; subst h; exact (y_wor (w := t8) (y_t (dt_isN (de_var 5)) (isNon_O (en := PyData.int) (fun _ => rfl) j)) (fun hk => by have h := ifF e_t8 hk; obtain ⟨t7, e_t7, h⟩ := bs h; have h := sm h; subst h; exact (dw_or1 (dt_not (y_tlele de_int (opt_as (de_var 5) e_t7) (de_globI m_MOST_DEGREE ⟨_, rfl⟩))))) (fun hk => ⟨(sm (ifT e_t8 hk)).symm, rfl⟩))) (fun hk => ⟨(sm (ifT e_t9 hk)).symm, rfl⟩))) (fun hc => ?_) (fun hc => ?_)
    · have h := ifT h hc
      exact ds_ret (d := ((eO (eP PyData.int PyData.int)) none)) de_non (by
        have h := sm h
        subst h
        exact rfl)
    · have h := ifF h hc
      refine ds_nil ?_
      obtain ⟨t10, e_t10, h⟩ := bs h
      obtain ⟨t11, e_t11, h⟩ := bs h
      exact ds_ret (d := ((eO (eP PyData.int PyData.int)) (some (t10, t11)))) (y_tup (ds := [(PyData.int t10), (PyData.int t11)]) (da_cons (opt_as (de_var 4) e_t10) (da_cons (opt_as (de_var 5) e_t11) da_nil))) (by
        have h := sm h
        subst h
        exact rfl)

theorem sc_poly_from : FnScope ["word", "row", "part", "found", "poly"] ["word"] (defScope s_poly_from) := ⟨rfl, rfl, rfl, by decide +kernel, rfl, by decide +kernel, by decide +kernel⟩
theorem c_poly_from (D : Def K mg "poly_from" s_poly_from ["word"]) (m_MOST_DEGREE : ∃ t, mg "MOST_DEGREE" = some (.int 12 t)) (C_term_from : Cal P w K mg base k "term_from" ["part"] (spP K (RY1 PyData.str (eO (eP PyData.int PyData.int)) y_term_from))) (C_trimmed : Cal P w K mg base k "trimmed" ["some"] (spP K (RY1 (eL PyData.int) (eT PyData.int) y_trimmed))) (C_poly_text : Cal P w K mg base k "poly_text" ["poly"] (spP K (RY1 (eT PyData.int) PyData.str y_poly_text))) : Cal P w K mg base (k + 1) "poly_from" ["word"] (spP K (RY1 PyData.str (eO (eT PyData.int)) y_poly_from))  := by
  obtain ⟨t_MOST_DEGREE, m_MOST_DEGREE⟩ := m_MOST_DEGREE
  refine cal_pure D sc_poly_from (fun ds r h => ?_) (by decide) (fun f cdv A outer s H G E ds r hr h => ?_)
  · obtain ⟨_, _, rfl, _⟩ := h; rfl
  · obtain ⟨v_word, v, rfl, h, rfl⟩ := h
    refine ds_to (Γ := [.dat (PyData.str v_word), .no, .no, .no, .no]) ?_ rfl
    obtain ⟨t, e_t, h⟩ := bs h
    refine y1_setN (v := t) 1 rfl (y1_rep (de_add (de_globI m_MOST_DEGREE ⟨_, rfl⟩) de_int) e_t) ?_ sc_poly_from.nd
    obtain ⟨t1, e_t1, h⟩ := bs h
    obtain ⟨t2, e_t2, h⟩ := bs h
    obtain ⟨c, e_c, hL⟩ := bs h
    refine yt_forC (en := PyData.str) (fun s : (List Int) => [.dat (PyData.str v_word), .own (s.map PyData.int), .no, .no, .no]) _ e_c (yit_list (yt_split (yt_repl (de_var 0) e_t1) de_str e_t2)) (pt_name 2 sc_poly_from.nd) (passes_of rfl) (fun s x v' h hK => ⟨_, ⟨rfl, rfl, rfl⟩, ?_⟩) (fun r hr1 => ?_)
    · clear e_c
      refine ds_if (dt_neS (de_var 2) de_str) (fun hc => ?_) (fun hc => ?_)
      · have h := ifT h hc
        obtain ⟨t3, e_t3, h⟩ := bs h
        refine y_set (en := (eO (eP PyData.int PyData.int))) (v := t3) 3 rfl (dc C_term_from hr (da_cons (de_var 2) da_nil) ⟨_, _, rfl, e_t3, rfl⟩) ?_ sc_poly_from.nd
        refine ds_if (y_t (dt_isN (de_var 3)) (isNon_O (en := (eP PyData.int PyData.int)) (fun _ => rfl) t3)) (fun hc => ?_) (fun hc => ?_)
        · have h := ifT h hc
          exact ds_ret (d := ((eO (eT PyData.int)) none)) de_non (by
            have q := hK _ (sm h).symm
            subst q
            have h := sm hL
            subst h
            exact rfl)
        · have h := ifF h hc
          refine ds_nil ?_
          obtain ⟨t4, e_t4, h⟩ := bs h
          obtain ⟨t5, e_t5, h⟩ := bs h
          obtain ⟨t6, e_t6, h⟩ := bs h
          refine y_item (xs := s) (en := PyData.int) 1 (de_ix (d := (PyData.int t4.1)) (opt_as (de_var 3) e_t4) de_int rfl) (de_varO 1) (de_ix (d := (PyData.int t5.2)) (opt_as (de_var 3) e_t5) de_int rfl) e_t6 ?_
          refine ds_nil ?_
          have h := sm h
          subst h
          refine ds_drop 3 ?_
          refine ds_drop 2 ?_
          exact ds_nil ⟨_, rfl, rfl⟩
      · have h := ifF h hc
        refine ds_nil ?_
        have h := sm h
        subst h
        refine ds_drop 2 ?_
        exact ds_nil ⟨_, rfl, rfl⟩
    · subst hr1
      have h := hL
      refine ds_fz (xs := r.map PyData.int) 1 ?_
      obtain ⟨t7, e_t7, h⟩ := bs h
      refine y_set (en := (eT PyData.int)) (v := t7) 4 rfl (dc C_trimmed hr (da_cons (de_var 1) da_nil) ⟨_, _, rfl, e_t7, rfl⟩) ?_ sc_poly_from.nd
      obtain ⟨t8, e_t8, h⟩ := bs h
      exact ds_ret (d := ((eO (eT PyData.int)) (if (decide (t8 = v_word)) = true then (some t7) else none))) (de_if (dt_eqS (dc C_poly_text hr (da_cons (de_var 4) da_nil) ⟨_, _, rfl, e_t8, rfl⟩) (de_var 0)) (fun hk => y_as (en := (eO (eT PyData.int))) (de_var 4) (if_pos hk).symm) (fun hk => y_as (en := (eO (eT PyData.int))) de_non (if_neg (by rw [hk]; decide)).symm)) (by
        have h := sm h
        subst h
        exact rfl)

theorem sc_read_poly : FnScope ["text", "found"] ["text"] (defScope s_read_poly) := ⟨rfl, rfl, rfl, by decide +kernel, rfl, by decide +kernel, by decide +kernel⟩
theorem c_read_poly (D : Def K mg "read_poly" s_read_poly ["text"]) (X_NoText : Xcl K mg "NoText" (cl .NoText)) (C_poly_from : Cal P w K mg base k "poly_from" ["word"] (spP K (RY1 PyData.str (eO (eT PyData.int)) y_poly_from))) : Cal P w K mg base (k + 1) "read_poly" ["text"] (spP K (RX1 cl PyData.str (eT PyData.int) y_read_poly))  := by
  refine cal_pure D sc_read_poly (fun ds r h => ?_) (by decide) (fun f cdv A outer s H G E ds r hr h => ?_)
  · obtain ⟨_, _, rfl, _⟩ := h; rfl
  · obtain ⟨v_text, v, rfl, h, rfl⟩ := h
    refine ds_to (Γ := [.dat (PyData.str v_text), .no]) ?_ rfl
    obtain ⟨t, e_t, h⟩ := bs h
    refine y_set (en := (eO (eT PyData.int))) (v := t) 1 rfl (dc C_poly_from hr (da_cons (de_var 0) da_nil) ⟨_, _, rfl, e_t, rfl⟩) ?_ sc_read_poly.nd
    refine ds_if (y_t (dt_isN (de_var 1)) (isNon_O (en := (eT PyData.int)) (fun _ => rfl) t)) (fun hc => ?_) (fun hc => ?_)
    · have h := ifT h hc
      exact ds_raise X_NoText (takes_of rfl rfl rfl rfl) (by
        have h := sm h
        subst h
        exact rfl)
    · have h := ifF h hc
      refine ds_nil ?_
      obtain ⟨t1, e_t1, h⟩ := bs h
      exact ds_ret (d := ((eT PyData.int) t1)) (opt_as (de_var 1) e_t1) (by
        have h := sm h
        subst h
        exact rfl)

theorem sc__law_well : FnScope ["cell", "turn"] ["cell", "turn"] (defScope s__law_well) := ⟨rfl, rfl, rfl, by decide +kernel, rfl, by decide +kernel, by decide +kernel⟩
theorem c__law_well (D : Def K mg "_law_well" s__law_well ["cell", "turn"]) : Cal P w K mg base (k + 1) "_law_well" ["cell", "turn"] (spWell K) := by
  have C : Cal P w K mg base (k + 1) "_law_well" ["cell", "turn"] (spP K R_well) := by
    refine cal_pure D sc__law_well (fun ds r h => ?_) (by decide) (fun f cdv A outer s H G E ds r hr h => ?_)
    · obtain ⟨c, t, rfl, _⟩ := h; rfl
    · obtain ⟨c, t, rfl, rfl⟩ := h
      refine ds_if (dt_ge (de_var 0) (de_pw 1000000000000000000 de_int de_int)) (fun h => ?_) (fun h => ?_)
      · refine ds_ret (de_fz (dn_lst (ds := [.int (c - 1000000000000000000), .int (c.fmod P61), .int t]) (da_cons (de_sub (de_var 0) (de_pw 1000000000000000000 de_int de_int)) (da_cons (de_mod (de_var 0) de_int (by decide)) (da_cons (de_var 1) da_nil))) (by show 3 ≤ 100000; decide))) ?_
        show PyData.list _ = .list (bagD (wellB c t))
        rw [wellB, if_pos (of_decide_eq_true h)]; rfl
      · refine ds_skip ?_
        refine ds_ret (de_fz (dn_lst (ds := [.int 0, .int (c.fmod P61), .int t]) (da_cons de_int (da_cons (de_mod (de_var 0) de_int (by decide)) (da_cons (de_var 1) da_nil))) (by show 3 ≤ 100000; decide))) ?_
        show PyData.list _ = .list (bagD (wellB c t))
        rw [wellB, if_neg (of_decide_eq_false h)]; rfl
  exact C.imp well_imp

theorem sc__law_take : FnScope ["bag", "many", "found", "p", "n"] ["bag", "many"] (defScope s__law_take) := ⟨rfl, rfl, rfl, by decide +kernel, rfl, by decide +kernel, by decide +kernel⟩
theorem c__law_take (D : Def K mg "_law_take" s__law_take ["bag", "many"]) : Cal P w K mg base (k + 1) "_law_take" ["bag", "many"] (spB K R_take) := by
  refine cal_bag D sc__law_take (fun xs ds d xs' h => ?_) (by decide) (fun f cdv A outer s H G E p xs ds d xs' hr h => ?_)
  · obtain ⟨b, m, n, _, _, _, _, _, rfl, _⟩ := h; rfl
  · obtain ⟨b, m, n, ok, hn, hm0, hm1, rfl, rfl, rfl, rfl⟩ := h
    have z0 := ok.z0
    have z1 := ok.z1
    refine ds_if (dt_gt (de_ix (de_varO 0) de_int rfl) de_int) (fun h => ?_) (fun h => ?_)
    · have hx : 0 < b.x := of_decide_eq_true h
      refine ds_set 2 (de_mod (de_ix (de_varO 0) de_int rfl) (de_var 1) (by omega)) ?_ sc__law_take.nd
      refine ds_item (i := 0) (j := 0) (de_fdiv (de_ix (de_varO 0) de_int rfl) (de_var 1) (divC _ (by omega) 64 (by omega) (by decide))) (de_varO 0) de_int rfl ?_
      refine ds_ret (de_var 2) ?_
      show PyData.int _ = .int _ ∧ Sl.own _ = .own _
      rw [take, if_pos hx]
      exact ⟨rfl, rfl⟩
    · have hx : ¬ 0 < b.x := of_decide_eq_false h
      refine ds_skip ?_
      refine ds_item (i := 0) (j := 2) (de_add (de_ix (de_varO 0) de_int rfl) de_int) (de_varO 0) de_int rfl ?_
      refine ds_set 3 de_int ?_ sc__law_take.nd
      have r1 := fmod_rng (b.y + 1000003 * (b.z + 1)) (m := P61) (by decide)
      have r2 := fmod_rng ((b.y + 1000003 * (b.z + 1)).fmod P61 * (b.y + 1000003 * (b.z + 1)).fmod P61 + 7919 * (b.z + 1) ^ 2 + 5) (m := P61) (by decide)
      refine ds_set 4 (de_mod (de_add (de_ix (de_varO 0) de_int rfl) (de_mul de_int (de_ix (de_varO 0) de_int rfl) (mulL (by decide)))) (de_var 3) (by decide)) ?_ sc__law_take.nd
      have e61 : P61 = 2305843009213693951 := rfl
      refine ds_set 4 (de_mod (de_add (de_add (de_mul (de_var 4) (de_var 4) (mulL (by show ((b.y + 1000003 * (b.z + 1)).fmod P61).natAbs < 2 ^ 64; omega))) (de_mul de_int (de_pow (de_ix (de_varO 0) de_int rfl) de_int ⟨by decide, by decide, by show (b.z + 1).natAbs < 2 ^ 64; omega⟩) (mulL (by decide)))) de_int) (de_var 3) (by decide)) ?_ sc__law_take.nd
      refine ds_ret (de_mod (de_fdiv (de_mod (de_pow (de_var 4) de_int ⟨by decide, by decide, by show ((((b.y + 1000003 * (b.z + 1)).fmod P61 * (b.y + 1000003 * (b.z + 1)).fmod P61 + 7919 * (b.z + 1) ^ 2 + 5)).fmod P61).natAbs < 2 ^ 64; omega⟩) (de_var 3) (by decide)) de_int (divC _ (by decide) 64 (by decide) (by decide))) (de_var 1) (by omega)) ?_
      show PyData.int _ = .int _ ∧ Sl.own _ = .own _
      rw [take, if_neg hx]
      exact ⟨rfl, rfl⟩

theorem sc__law_bags : FnScope ["script", "most", "k", "cell"] ["script", "most"] (defScope s__law_bags) := ⟨rfl, rfl, rfl, by decide +kernel, rfl, by decide +kernel, by decide +kernel⟩
theorem c__law_bags (D : Def K mg "_law_bags" s__law_bags ["script", "most"]) (B : Bt mg) (C__law_well : Cal P w K mg base k "_law_well" ["cell", "turn"] (spWell K)) : Cal P w K mg base (k + 1) "_law_bags" ["script", "most"] (spBags K) := by
  obtain ⟨fw, fdw, w1, w2, w3, w4⟩ := C__law_well.ex
  refine cal_raw D sc__law_bags (fun vs H Q E h => ?_) (fun f cdv A outer s H vs Q E hr h => ?_)
  · obtain ⟨a, ns, m, rfl, _⟩ := h; rfl
  · obtain ⟨a, ns, m, rfl, hS, hlen, q⟩ := h
    refine ⟨_, pss_one (ps_ret (pe_lc (own := [("k", 2), ("cell", 3)]) (g := gTup K 2 (gCons (gName 2) (gCons (gName 3) gNil))) rfl sc__law_bags.nd (pi_enum rfl B.enum (pa_cons (pe_op op_catR (pe_slice sl_list (pv 0) po_none (po_some (pv 1))) (pe_lst (pa_cons pe_int pa_nil))) pa_nil)) (blkOk_by (own := [("k", 2), ("cell", 3)]) (N := ["script", "most", "k", "cell"]) (sc := defScope s__law_bags) (by decide +kernel))
      (fun _ _ _ _ _ => pt_pair 2 3 sc__law_bags.nd) (fun _ _ _ _ _ => pts_nil) (fun _ _ _ _ _ => pe_callS (E := WE fun _ _ _ _ => False) w1 hr rfl w2 w3 w4 (fun σ => passAt takes0 σ) (pa_cons (pv 3) (pa_cons (pe_op op_mul pe_int (pv 2)) pa_nil))))), ?_⟩
    refine ⟨.ref a, rfl, .int m, rfl, m, rfl, a, ns.map V.int, rfl, hS, fun p1 n1 => ?_⟩
    refine ⟨by show 1 ≤ sizeLine; decide, fun p2 n2 => ?_⟩
    have ne : p1 ≠ p2 := fun z => by rw [← z, upd_same] at n2; cases n2
    have l1 := cut_le (us := ns.map V.int) m
    rw [List.length_map] at l1
    refine ⟨p1, p2, _, _, rfl, rfl, .inl (by rw [upd_ne ne, upd_same]), .inl upd_same, ?_, fun p3 n3 => ?_⟩
    · show (cutV (ns.map V.int) none (some m)).length + 1 ≤ sizeLine
      exact Nat.le_trans (show _ ≤ 64 by omega) (by decide)
    · refine ⟨p3, _, rfl, .inl (.inl upd_same), fun Dd hDd => ?_⟩
      refine bags_lc (K := K) 2 3 rfl (by decide) (by show 2 < 4; decide) (by show 3 < 4; decide) upd_same hDd ?_ ?_ ?_ ?_
      · rw [List.length_append]
        show (cutV (ns.map V.int) none (some m)).length + 1 ≤ 64
        omega
      · intro u hu
        rcases List.mem_append.mp hu with hu | hu
        · obtain ⟨i, _, e⟩ := List.mem_map.mp (cut_mem hu)
          exact ⟨i, e.symm⟩
        · rw [List.mem_singleton] at hu
          exact ⟨0, hu⟩
      · intro i c σ2 H2 Q2 hi e1 e2 qq
        exact ⟨.int c, e2, .int (i : Int), e1, 977, (i : Int), rfl, rfl, .inl ⟨by decide, by decide⟩, c, 977 * (i : Int), rfl, by omega, by omega, qq⟩
      · intro bs H' sm h1 nd nD ok
        exact q Dd bs H' ((same_upd n1).trans ((same_upd n2).trans ((same_upd n3).trans sm))) h1 nd nD ok

--! recursion 12
theorem sc__law_same : FnScope ["a", "b", "x", "y"] ["a", "b"] (defScope s__law_same) := ⟨rfl, rfl, rfl, by decide +kernel, rfl, by decide +kernel, by decide +kernel⟩
theorem law_same_tail {f : Addr} {cdv : Value} {A : Around} {outer : List PySem.Env} {s : Shared} {H G : Hp} {E : XK} {a b : PyData} (B : Bt mg) (h1 : (isL a && isL b || isT a && isT b) = false) :
    PSs (cxOf (L2.CX P w) P w K mg base ["a", "b", "x", "y"] "_law_same" (defScope s__law_same) f cdv A outer s H E) ((defBody s__law_same).drop 1) (tS K (fx0 H G) (fun c d _ H => E c d H) (startG 4 [a, b]) (wantP (.ok (.bool (sameD a b))))) := by
  refine ds_if (PW.pt (dw_or (dt_as (dt_b (de_isi3 "bool" "list" "tuple" (ty_bool B) (ty_list B) (ty_tuple B) (de_var 0) B.isi)) (isi_blt a)) fun _ => dw_or1 (dt_as (dt_b (de_isi3 "bool" "list" "tuple" (ty_bool B) (ty_list B) (ty_tuple B) (de_var 1) B.isi)) (isi_blt b)))) (fun h => ?_) (fun h => ?_)
  · cases ha : isB a with
    | false =>
      refine ds_ret (de_as (de_and (l := true) (de_isiB B (de_var 0)) fun h => ?_) (by rw [ha]; try rfl)) ?_
      · rw [ha] at h; cases h
      · show PyData.bool false = .bool (sameD a b)
        cases a <;> cases b <;> first | rfl | (simp [isL, isT, isB] at h h1 ha; done)
    | true =>
      obtain ⟨x, rfl⟩ : ∃ x, a = .bool x := by cases a <;> first | exact ⟨_, rfl⟩ | cases ha
      cases hb : isB b with
      | false =>
        refine ds_ret (de_as (de_and (de_isiB B (de_var 0)) fun _ => de_and (l := true) (de_isiB B (de_var 1)) fun h => ?_) (by rw [hb]; try rfl)) ?_
        · rw [hb] at h; cases h
        · show PyData.bool false = .bool (sameD (.bool x) b)
          cases b <;> first | rfl | cases hb
      | true =>
        obtain ⟨y, rfl⟩ : ∃ y, b = .bool y := by cases b <;> first | exact ⟨_, rfl⟩ | cases hb
        refine ds_ret (de_and (de_isiB B (de_var 0)) fun _ => de_and (de_isiB B (de_var 1)) fun _ => de_one (de_cmp op_eq rd_eqB (de_var 0) (de_var 1) (nomark _))) ?_
        show PyData.bool _ = .bool _
        simp [isB, sameD]
  · refine ds_skip ?_
    have hab : isB a = false ∧ isL a = false ∧ isT a = false ∧ isB b = false ∧ isL b = false ∧ isT b = false := by
      simp only [Bool.or_eq_false_iff] at h
      exact ⟨h.1.1.1, h.1.1.2, h.1.2, h.2.1.1, h.2.1.2, h.2.2⟩
    obtain ⟨a1, a2, a3, b1, b2, b3⟩ := hab
    refine ds_if (PW.pt (dw_or (dt_b (de_isiI B (de_var 0))) fun _ => dw_or1 (dt_b (de_isiI B (de_var 1))))) (fun h => ?_) (fun h => ?_)
    · cases ha : isI a with
      | false =>
        refine ds_ret (de_as (de_and (l := true) (de_isiI B (de_var 0)) fun h => ?_) (by rw [ha]; try rfl)) ?_
        · rw [ha] at h; cases h
        · show PyData.bool false = .bool (sameD a b)
          cases a <;> cases b <;> first | rfl | (simp [isL, isT, isB, isI] at h a1 a2 a3 b1 b2 b3 ha; done)
      | true =>
        obtain ⟨x, rfl⟩ : ∃ x, a = .int x := by cases a <;> first | exact ⟨_, rfl⟩ | (cases a1; done) | (cases ha; done)
        cases hb : isI b with
        | false =>
          refine ds_ret (de_as (de_and (de_isiI B (de_var 0)) fun _ => de_and (l := true) (de_isiI B (de_var 1)) fun h => ?_) (by rw [hb]; try rfl)) ?_
          · rw [hb] at h; cases h
          · show PyData.bool false = .bool (sameD (.int x) b)
            cases b <;> first | rfl | cases hb
        | true =>
          obtain ⟨y, rfl⟩ : ∃ y, b = .int y := by cases b <;> first | exact ⟨_, rfl⟩ | (cases b1; done) | (cases hb; done)
          refine ds_ret (de_and (de_isiI B (de_var 0)) fun _ => de_and (de_isiI B (de_var 1)) fun _ => de_one (de_eqI (de_var 0) (de_var 1))) ?_
          show PyData.bool _ = .bool _
          simp [isI, sameD]
    · refine ds_skip ?_
      have hI : isI a = false ∧ isI b = false := by simpa only [Bool.or_eq_false_iff] using h
      obtain ⟨a4, b4⟩ := hI
      refine ds_if (PW.pt (dw_or (dt_b (de_isiS B (de_var 0))) fun _ => dw_or1 (dt_b (de_isiS B (de_var 1))))) (fun h => ?_) (fun h => ?_)
      · cases ha : isS a with
        | false =>
          refine ds_ret (de_as (de_and (l := true) (de_isiS B (de_var 0)) fun h => ?_) (by rw [ha]; try rfl)) ?_
          · rw [ha] at h; cases h
          · show PyData.bool false = .bool (sameD a b)
            cases a <;> cases b <;> first | rfl | (simp [isL, isT, isB, isI, isS] at h a1 a2 a3 a4 b1 b2 b3 b4 ha; done)
        | true =>
          obtain ⟨x, rfl⟩ : ∃ x, a = .str x := by cases a <;> first | exact ⟨_, rfl⟩ | cases ha
          cases hb : isS b with
          | false =>
            refine ds_ret (de_as (de_and (de_isiS B (de_var 0)) fun _ => de_and (l := true) (de_isiS B (de_var 1)) fun h => ?_) (by rw [hb]; try rfl)) ?_
            · rw [hb] at h; cases h
            · show PyData.bool false = .bool (sameD (.str x) b)
              cases b <;> first | rfl | cases hb
          | true =>
            obtain ⟨y, rfl⟩ : ∃ y, b = .str y := by cases b <;> first | exact ⟨_, rfl⟩ | cases hb
            refine ds_ret (de_and (de_isiS B (de_var 0)) fun _ => de_and (de_isiS B (de_var 1)) fun _ => de_one (de_eqS (de_var 0) (de_var 1))) ?_
            show PyData.bool _ = .bool _
            simp [isS, sameD]
      · refine ds_skip (ds_ret (de_and (de_isN (de_var 0)) fun _ => de_one (de_isN (de_var 1))) ?_)
        show PyData.bool _ = .bool _
        have hS : isS a = false ∧ isS b = false := by simpa only [Bool.or_eq_false_iff] using h
        cases a <;> cases b <;> first | rfl | (simp [isL, isT, isB, isI, isS] at a1 a2 a3 a4 b1 b2 b3 b4 hS; done)
theorem c__law_same (D : Def K mg "_law_same" s__law_same ["a", "b"]) (B : Bt mg) : ∀ n : Nat, Cal P w K mg base (k + n + 1) "_law_same" ["a", "b"] (spP K (R_same n)) := by
  intro n
  induction n with
  | zero =>
    refine cal_pure D sc__law_same (fun ds r h => ?_) (by decide) (fun f cdv A outer s H G E ds r hr h => ?_)
    · obtain ⟨a, b, rfl, _⟩ := h; rfl
    · obtain ⟨a, b, rfl, ha, hb, rfl⟩ := h
      have h1 : (isL a && isL b || isT a && isT b) = false := by
        cases a <;> first | rfl | exact ha.elim
      refine ds_if (dt_as (PW.pt (dw_or (PW.pt (dw_and (dt_b (de_isiL B (de_var 0))) fun _ => dw_and1 (dt_b (de_isiL B (de_var 1))))) fun _ => dw_or1 (PW.pt (dw_and (dt_b (de_isiT B (de_var 0))) fun _ => dw_and1 (dt_b (de_isiT B (de_var 1))))))) h1) (fun h => by cases h) (fun _ => ds_skip (law_same_tail B h1))
  | succ n ih =>
    refine cal_pure D sc__law_same (fun ds r h => ?_) (by decide) (fun f cdv A outer s H G E ds r hr h => ?_)
    · obtain ⟨a, b, rfl, _⟩ := h; rfl
    · obtain ⟨a, b, rfl, ha, hb, rfl⟩ := h
      refine ds_if (PW.pt (dw_or (PW.pt (dw_and (dt_b (de_isiL B (de_var 0))) fun _ => dw_and1 (dt_b (de_isiL B (de_var 1))))) fun _ => dw_or1 (PW.pt (dw_and (dt_b (de_isiT B (de_var 0))) fun _ => dw_and1 (dt_b (de_isiT B (de_var 1))))))) (fun h => ?_) (fun h => ds_skip (law_same_tail B h))
      have alt : (∃ as bs, a = .list as ∧ b = .list bs) ∨ (∃ as bs, a = .tuple as ∧ b = .tuple bs) := by
        cases a <;> cases b <;> first | exact .inl ⟨_, _, rfl, rfl⟩ | exact .inr ⟨_, _, rfl, rfl⟩ | (simp [isL, isT] at h; done)
      rcases alt with ⟨as, bs, rfl, rfl⟩ | ⟨as, bs, rfl, rfl⟩
      · refine ds_ret (de_and (de_eqI (de_len (de_var 0) B.len) (de_len (de_var 1) B.len)) fun _ => de_one (de_all (bs := (zipD as bs).map samePair)
          (de_fz (LcR.pe (lr_mapT (own := [("x", 2), ("y", 3)]) (fun d => .bool (samePair d)) (di_zipL (da_cons (de_var 0) (da_cons (de_var 1) da_nil)) B.zip) (tgt_pair 2 3) sc__law_same.nd (blkOk_by (own := [("x", 2), ("y", 3)]) (N := ["a", "b", "x", "y"]) (sc := defScope s__law_same) (by decide +kernel))
            (fun _ _ _ _ _ => pt_pair 2 3 sc__law_same.nd) (by rw [zipD_len]; exact Nat.lt_of_le_of_lt (Nat.min_le_left _ _) ha.1) (fun d hd => by
              obtain ⟨x, y, rfl, hx, hy⟩ := zipD_mem hd
              exact ⟨_, ⟨x, y, rfl, rfl, rfl, rfl, rfl, rfl⟩, rfl, fun _ _ _ _ _ => dc ih hr (da_cons (de_var 2) (da_cons (de_var 3) da_nil)) ⟨x, y, rfl, ha.2 x hx, hb.2 y hy, rfl⟩⟩)))) B.all (by show some (PyData.list _) = _; rw [List.map_map]; rfl))) ?_
        show PyData.bool _ = .bool _
        rw [show sameD (.list as) (.list bs) = AM.sameAll as bs from by simp only [sameD], sameAll_eq, dec_cast]
      · refine ds_ret (de_and (de_eqI (de_len (de_var 0) B.len) (de_len (de_var 1) B.len)) fun _ => de_one (de_all (bs := (zipD as bs).map samePair)
          (de_fz (LcR.pe (lr_mapT (own := [("x", 2), ("y", 3)]) (fun d => .bool (samePair d)) (di_zipT (da_cons (de_var 0) (da_cons (de_var 1) da_nil)) B.zip) (tgt_pair 2 3) sc__law_same.nd (blkOk_by (own := [("x", 2), ("y", 3)]) (N := ["a", "b", "x", "y"]) (sc := defScope s__law_same) (by decide +kernel))
            (fun _ _ _ _ _ => pt_pair 2 3 sc__law_same.nd) (by rw [zipD_len]; exact Nat.lt_of_le_of_lt (Nat.min_le_left _ _) ha.1) (fun d hd => by
              obtain ⟨x, y, rfl, hx, hy⟩ := zipD_mem hd
              exact ⟨_, ⟨x, y, rfl, rfl, rfl, rfl, rfl, rfl⟩, rfl, fun _ _ _ _ _ => dc ih hr (da_cons (de_var 2) (da_cons (de_var 3) da_nil)) ⟨x, y, rfl, ha.2 x hx, hb.2 y hy, rfl⟩⟩)))) B.all (by show some (PyData.list _) = _; rw [List.map_map]; rfl))) ?_
        show PyData.bool _ = .bool _
        rw [show sameD (.tuple as) (.tuple bs) = AM.sameAll as bs from by simp only [sameD], sameAll_eq, dec_cast]

theorem sc__law_int : FnScope ["bag", "way"] ["bag"] (defScope s__law_int) := ⟨rfl, rfl, rfl, by decide +kernel, rfl, by decide +kernel, by decide +kernel⟩
theorem c__law_int (D : Def K mg "_law_int" s__law_int ["bag"]) (C__law_take : Cal P w K mg base k "_law_take" ["bag", "many"] (spB K R_take)) : Cal P w K mg base (k + 1) "_law_int" ["bag"] (spB K (RYB0 PyData.int y__law_int))  := by
  refine cal_bag D sc__law_int (fun xs ds d xs' h => ?_) (by decide) (fun f cdv A outer s H G E p xs ds d xs' hr h => ?_)
  · obtain ⟨_, _, _, rfl, _⟩ := h; rfl
  · obtain ⟨b, v, rfl, rfl, h, rfl, rfl⟩ := h
    refine ds_to (Γ := [.own (bagD b), .no]) ?_ rfl
    obtain ⟨t, e_t, h⟩ := bs h
    refine y_set (en := PyData.int) (v := t.1) 1 rfl (dcb C__law_take hr (da_cons (de_varO 0) (da_cons de_int da_nil)) (takeC_R (v := t) e_t)) ?_ sc__law_int.nd
    refine ds_if (dt_lt (de_var 1) de_int) (fun hc => ?_) (fun hc => ?_)
    · have h := ifT h hc
      obtain ⟨t1, e_t1, h⟩ := bs h
      exact ds_ret (d := (PyData.int (t1.1 - (6 : Int)))) (de_sub (dcb C__law_take hr (da_cons (de_varO 0) (da_cons de_int da_nil)) (takeC_R (v := t1) e_t1)) de_int) (by
        have h := sm h
        subst h
        exact ⟨rfl, rfl⟩)
    · have h := ifF h hc
      refine ds_nil ?_
      refine ds_if (dt_lt (de_var 1) de_int) (fun hc => ?_) (fun hc => ?_)
      · have h := ifT h hc
        obtain ⟨t2, e_t2, h⟩ := bs h
        exact ds_ret (d := (PyData.int (t2.1 - (100 : Int)))) (de_sub (dcb C__law_take hr (da_cons (de_varO 0) (da_cons de_int da_nil)) (takeC_R (v := t2) e_t2)) de_int) (by
          have h := sm h
          subst h
          exact ⟨rfl, rfl⟩)
      · have h := ifF h hc
        refine ds_nil ?_
        obtain ⟨t3, e_t3, h⟩ := bs h
        obtain ⟨t4, e_t4, h⟩ := bs h
        exact ds_ret (d := (PyData.int (t4.1 - (1000000 : Int)))) (de_sub (dcb C__law_take hr (da_cons (de_varO 0) (da_cons (de_add (y_mul de_int (de_pw 1000000 de_int de_int) e_t3) de_int) da_nil)) (takeC_R (v := t4) e_t4)) (de_pw 1000000 de_int de_int)) (by
          have h := sm h
          subst h
          exact ⟨rfl, rfl⟩)

theorem sc__law_wide : FnScope ["bag", "way"] ["bag"] (defScope s__law_wide) := ⟨rfl, rfl, rfl, by decide +kernel, rfl, by decide +kernel, by decide +kernel⟩
theorem c__law_wide (D : Def K mg "_law_wide" s__law_wide ["bag"]) (C__law_take : Cal P w K mg base k "_law_take" ["bag", "many"] (spB K R_take)) (C__law_int : Cal P w K mg base k "_law_int" ["bag"] (spB K (RYB0 PyData.int y__law_int))) : Cal P w K mg base (k + 1) "_law_wide" ["bag"] (spB K (RYB0 PyData.int y__law_wide))  := by
  refine cal_bag D sc__law_wide (fun xs ds d xs' h => ?_) (by decide) (fun f cdv A outer s H G E p xs ds d xs' hr h => ?_)
  · obtain ⟨_, _, _, rfl, _⟩ := h; rfl
  · obtain ⟨b, v, rfl, rfl, h, rfl, rfl⟩ := h
    refine ds_to (Γ := [.own (bagD b), .no]) ?_ rfl
    obtain ⟨t, e_t, h⟩ := bs h
    refine y_set (en := PyData.int) (v := t.1) 1 rfl (dcb C__law_take hr (da_cons (de_varO 0) (da_cons de_int da_nil)) (takeC_R (v := t) e_t)) ?_ sc__law_wide.nd
    refine ds_if (dt_lt (de_var 1) de_int) (fun hc => ?_) (fun hc => ?_)
    · have h := ifT h hc
      obtain ⟨t1, e_t1, h⟩ := bs h
      exact ds_ret (d := (PyData.int t1.1)) (dcb C__law_int hr (da_cons (de_varO 0) da_nil) ⟨_, t1, rfl, rfl, e_t1, rfl, rfl⟩) (by
        have h := sm h
        subst h
        exact ⟨rfl, rfl⟩)
    · have h := ifF h hc
      refine ds_nil ?_
      refine ds_if (dt_eqI (de_var 1) de_int) (fun hc => ?_) (fun hc => ?_)
      · have h := ifT h hc
        obtain ⟨t2, e_t2, h⟩ := bs h
        obtain ⟨t3, e_t3, h⟩ := bs h
        exact ds_ret (d := (PyData.int (t3.1 - (1000000000000000 : Int)))) (de_sub (dcb C__law_take hr (da_cons (de_varO 0) (da_cons (de_add (y_mul de_int (de_pw 1000000000000000 de_int de_int) e_t2) de_int) da_nil)) (takeC_R (v := t3) e_t3)) (de_pw 1000000000000000 de_int de_int)) (by
          have h := sm h
          subst h
          exact ⟨rfl, rfl⟩)
      · have h := ifF h hc
        refine ds_nil ?_
        obtain ⟨t4, e_t4, h⟩ := bs h
        obtain ⟨t5, e_t5, h⟩ := bs h
        exact ds_ret (d := (PyData.int t5)) (y_ix (en := PyData.int) (de_fz (y_lst (ds := [(0 : Int), (1 : Int), (-(1 : Int)), (1000000000000000 : Int), ((0 : Int) - (1000000000000000 : Int))].map PyData.int) (da_cons de_int (da_cons de_int (da_cons (de_neg de_int) (da_cons (de_pw 1000000000000000 de_int de_int) (da_cons (de_sub de_int (de_pw 1000000000000000 de_int de_int)) da_nil))))))) (dcb C__law_take hr (da_cons (de_varO 0) (da_cons de_int da_nil)) (takeC_R (v := t4) e_t4)) e_t5) (by
          have h := sm h
          subst h
          exact ⟨rfl, rfl⟩)

theorem sc__law_trim : FnScope ["row", "found"] ["row"] (defScope s__law_trim) := ⟨rfl, rfl, rfl, by decide +kernel, rfl, by decide +kernel, by decide +kernel⟩
theorem c__law_trim (D : Def K mg "_law_trim" s__law_trim ["row"]) (B : Bt mg) : Cal P w K mg base (k + 1) "_law_trim" ["row"] (spP K (RY1 (eS PyData.int) (eT PyData.int) y__law_trim))  := by
  refine cal_pure D sc__law_trim (fun ds r h => ?_) (by decide) (fun f cdv A outer s H G E ds r hr h => ?_)
  · obtain ⟨_, _, rfl, _⟩ := h; rfl
  · obtain ⟨v_row, v, rfl, h, rfl⟩ := h
    refine ds_to (Γ := [.dat ((eS PyData.int) v_row), .no]) ?_ rfl
    refine y_setN (en := PyData.int) (v := v_row.2) 1 rfl (y_list (xs := v_row.2) (en := PyData.int) (de_var 0) B (hv := ⟨_, rfl, sqS _ _⟩)) ?_ sc__law_trim.nd
    obtain ⟨r, e_r, h⟩ := bs h
    refine y_while (fun s : (List Int) => [.dat ((eS PyData.int) v_row), .own (s.map PyData.int)]) _ _ e_r (passes_of rfl) (fun s v h => by obtain ⟨t1, e_t1, h⟩ := bs h; exact y_t (PW.pt (y_wand (w := t1) (y_tneD (x := s) (y := ([] : List Int)) (EqE.L eqE_int) (ShE.L shE_int) hr (de_varO 1) (de_fz dn_nilL)) (fun hk => by have h := ifT e_t1 hk; obtain ⟨t, e_t, h⟩ := bs h; have h := sm h; subst h; exact (dw_and1 (dt_eqI (y_ix (en := PyData.int) (de_varO 1) (de_neg de_int) e_t) de_int))) (fun hk => ⟨(sm (ifF e_t1 hk)).symm, rfl⟩))) (sm h)) (fun s s' h => ?_) ?_
    · clear e_r
      obtain ⟨t2, e_t2, h⟩ := bs h
      refine y_pop (xs := s) (en := PyData.int) 1 (de_varO 1) e_t2 ?_ rfl (pe_bm0 PySem.F.plainAttrs_list PySem.F.slot_list_pop PySem.F.type_list_pop mt_pop (de_varO 1))
      have h := sm h
      subst h
      exact ds_nil rfl
    exact ds_ret (d := ((eT PyData.int) r)) (y_tuple (xs := r) (en := PyData.int) (de_varO 1) B) (by
      have h := sm h
      subst h
      exact rfl)

theorem sc__law_poly_text : FnScope ["f", "found", "k", "mark", "many"] ["f"] (defScope s__law_poly_text) := ⟨rfl, rfl, rfl, by decide +kernel, rfl, by decide +kernel, by decide +kernel⟩
theorem c__law_poly_text (D : Def K mg "_law_poly_text" s__law_poly_text ["f"]) (B : Bt mg) : Cal P w K mg base (k + 1) "_law_poly_text" ["f"] (spP K (RY1 (eT PyData.int) PyData.str y__law_poly_text))  := by
  refine cal_pure D sc__law_poly_text (fun ds r h => ?_) (by decide) (fun f cdv A outer s H G E ds r hr h => ?_)
  · obtain ⟨_, _, rfl, _⟩ := h; rfl
  · obtain ⟨v_f, v, rfl, h, rfl⟩ := h
    refine ds_to (Γ := [.dat ((eT PyData.int) v_f), .no, .no, .no, .no]) ?_ rfl
    obtain ⟨v_found, e_v_found, h⟩ := bs h
    refine y_set (en := PyData.str) (v := ("" : Str)) 1 (sm e_v_found) de_str ?_ sc__law_poly_text.nd
    obtain ⟨t, e_t, h⟩ := bs h
    obtain ⟨r, e_r, h⟩ := bs h
    refine y_for (en := PyData.int) (fun s : Str => [.dat ((eT PyData.int) v_f), .dat (PyData.str s), .no, .no, .no]) _ e_r (yi_range3 (de_sub (y_len (xs := v_f) (en := PyData.int) (de_var 0) B) de_int) (de_neg de_int) (de_neg de_int) B e_t) (pt_name 2 sc__law_poly_text.nd) (passes_of rfl) (fun s x s' h => ⟨_, ⟨rfl, rfl, rfl⟩, ?_⟩) ?_
    · clear e_r
      obtain ⟨t1, e_t1, h⟩ := bs h
      refine ds_if (dt_neI (y_ix (en := PyData.int) (de_var 0) (de_var 2) e_t1) de_int) (fun hc => ?_) (fun hc => ?_)
      · have h := ifT h hc
        obtain ⟨t2, e_t2, h⟩ := bs h
        obtain ⟨v_mark, e_v_mark, h⟩ := bs h
        refine y_set (en := PyData.str) (v := (if (decide (t2 < (0 : Int))) = true then ("-" : Str) else ("+" : Str))) 3 (sm e_v_mark) (de_if (dt_lt (y_ix (en := PyData.int) (de_var 0) (de_var 2) e_t2) de_int) (fun hk => y_as (en := PyData.str) de_str (if_pos hk).symm) (fun hk => y_as (en := PyData.str) de_str (if_neg (by rw [hk]; decide)).symm)) ?_ sc__law_poly_text.nd
        obtain ⟨t3, e_t3, h⟩ := bs h
        obtain ⟨t4, e_t4, h⟩ := bs h
        refine y_set (en := PyData.str) (v := t4) 4 rfl (y_strI (de_abs (y_ix (en := PyData.int) (de_var 0) (de_var 2) e_t3) B.abs) e_t4 B.str) ?_ sc__law_poly_text.nd
        obtain ⟨j, e_j, h⟩ := bs h
        refine ds_cut (fun Γ => Γ = [.dat ((eT PyData.int) v_f), .dat (PyData.str s), .dat (PyData.int x), .dat (PyData.str v_mark), .dat (PyData.str j)]) (fun Γ hJ => ?_) (fun tail => ?_)
        rotate_left
        · have h := e_j
          refine ds_if (PW.pt (dw_and (dt_gt (de_var 2) de_int) fun _ => (dw_and1 (dt_eqS (de_var 4) de_str)))) (fun hc => ?_) (fun hc => ?_)
          · have h := ifT h hc
            obtain ⟨v_many, e_v_many, h⟩ := bs h
            refine y_set (en := PyData.str) (v := ("" : Str)) 4 (sm e_v_many) de_str ?_ sc__law_poly_text.nd
            have h := sm h
            subst h
            exact ds_skip (tail _ rfl)
          · have h := ifF h hc
            have h := sm h
            subst h
            exact ds_skip (tail _ rfl)
        subst hJ
        obtain ⟨t5, e_t5, h⟩ := bs h
        obtain ⟨t6, e_t6, h⟩ := bs h
        obtain ⟨t7, e_t7, h⟩ := bs h
        obtain ⟨t8, e_t8, h⟩ := bs h
        obtain ⟨t9, e_t9, h⟩ := bs h
        obtain ⟨t10, e_t10, h⟩ := bs h
        refine y_set (en := PyData.str) (v := t10) 1 rfl (y_addS (y_addS (y_addS (de_var 1) (de_var 3) e_t5) (de_var 4) e_t6) (y_ix (en := PyData.str) (de_fz (y_lst (ds := [("" : Str), ("x" : Str), t8].map PyData.str) (da_cons de_str (da_cons de_str (da_cons (y_addS de_str (y_strI (de_var 2) e_t7 B.str) e_t8) da_nil))))) (de_min2 (de_var 2) de_int B.min) e_t9) e_t10) ?_ sc__law_poly_text.nd
        refine ds_nil ?_
        have h := sm h
        subst h
        refine ds_drop 3 ?_
        refine ds_drop 4 ?_
        refine ds_drop 2 ?_
        exact ds_nil rfl
      · have h := ifF h hc
        refine ds_nil ?_
        have h := sm h
        subst h
        refine ds_drop 2 ?_
        exact ds_nil rfl
    refine ds_if (dt_eqS (de_var 1) de_str) (fun hc => ?_) (fun hc => ?_)
    · have h := ifT h hc
      exact ds_ret (d := (PyData.str ("0" : Str))) de_str (by
        have h := sm h
        subst h
        exact rfl)
    · have h := ifF h hc
      refine ds_nil ?_
      obtain ⟨t11, e_t11, h⟩ := bs h
      obtain ⟨t13, e_t13, h⟩ := bs h
      exact ds_ret (d := (PyData.str t13)) (de_if (dt_eqS (y_ixS (de_var 1) de_int e_t11) de_str) (fun hk => by have h := ifT e_t13 hk; obtain ⟨t12, e_t12, h⟩ := bs h; exact y_as (en := PyData.str) (y_slS (de_var 1) (do_some de_int) do_none e_t12) (sm h)) (fun hk => by have h := ifF e_t13 hk; exact y_as (en := PyData.str) (de_var 1) (sm h))) (by
        have h := sm h
        subst h
        exact rfl)

--! none
theorem sc__law_ask : FnScope ["deed", "found"] ["deed"] (defScope s__law_ask) := ⟨rfl, rfl, rfl, by decide +kernel, rfl, by decide +kernel, by decide +kernel⟩
theorem ask_given {X : Cx} {q : Str} (X_NoText : Xcl X.K X.mg "NoText" (cl .NoText)) (X_RootError : Xcl X.K X.mg "RootError" (cl .RootError)) (g : Addr) (cdv : Value) : LamX.GivesTo X ["deed", "found"] "_law_ask" (defScope s__law_ask) g cdv (defBody s__law_ask) "deed" q (TTask X.K [(.ref (cl .NoText), [.str "refused", .str "NoText"]), (.ref (cl .RootError), [.str "refused", .str "other"])]) :=
  ask_gives rfl fun s H => (hd_cons (l := [(.ref (cl .RootError), [.str "refused", .str "other"])]) ⟨rfl, by decide, .inl X_NoText.gC⟩ sc__law_ask.nd (hd_cons (l := []) ⟨rfl, by decide, .inl X_RootError.gC⟩ sc__law_ask.nd .nil))

theorem sc__law_whole_of : FnScope ["word", "figures", "c"] ["word"] (defScope s__law_whole_of) := ⟨rfl, rfl, rfl, by decide +kernel, rfl, by decide +kernel, by decide +kernel⟩
theorem c__law_whole_of (D : Def K mg "_law_whole_of" s__law_whole_of ["word"]) (B : Bt mg) : Cal P w K mg base (k + 1) "_law_whole_of" ["word"] (spP K (RY1 PyData.str (eO PyData.int) y__law_whole_of))  := by
  refine cal_pure D sc__law_whole_of (fun ds r h => ?_) (by decide) (fun f cdv A outer s H G E ds r hr h => ?_)
  · obtain ⟨_, _, rfl, _⟩ := h; rfl
  · obtain ⟨v_word, v, rfl, h, rfl⟩ := h
    refine ds_to (Γ := [.dat (PyData.str v_word), .no, .no]) ?_ rfl
    obtain ⟨t, e_t, h⟩ := bs h
    obtain ⟨t2, e_t2, h⟩ := bs h
    refine y_set (en := PyData.str) (v := t2) 1 rfl (de_if (dt_eqS (y_slS (de_var 0) do_none (do_some de_int) e_t) de_str) (fun hk => by have h := ifT e_t2 hk; obtain ⟨t1, e_t1, h⟩ := bs h; exact y_as (en := PyData.str) (y_slS (de_var 0) (do_some de_int) do_none e_t1) (sm h)) (fun hk => by have h := ifF e_t2 hk; exact y_as (en := PyData.str) (de_var 0) (sm h))) ?_ sc__law_whole_of.nd
    obtain ⟨t8, e_t8, h⟩ := bs h
    refine ds_if (PW.pt (y_wor (w := t8) (dt_eqS (de_var 1) de_str) (fun hk => by have h := ifF e_t8 hk; obtain ⟨t4, e_t4, h⟩ := bs h; obtain ⟨t5, e_t5, h⟩ := bs h; obtain ⟨t7, e_t7, h⟩ := bs h; have h := sm h; subst h; exact (y_wor (w := t7) (y_tneQ (da := ((eL PyData.str) t4)) (db := ((eL PyData.str) ([] : List Str))) hr (de_fz (LcR.pe (y_lcf (own := [("c", 2)]) (en := PyData.str) (em := PyData.str) _ _ e_t4 (yi_str (de_var 1)) (tgt_name 2) sc__law_whole_of.nd (blkOk_by (own := [("c", 2)]) (N := ["word", "figures", "c"]) (sc := defScope s__law_whole_of) (by decide +kernel)) (fun _ _ _ _ _ => pg_name sc__law_whole_of.nd rfl (by first | exact .inl rfl | exact .inr rfl)) (fun x1 y h => by obtain ⟨t3, e_t3, h⟩ := bs h; refine ⟨_, ⟨rfl, rfl, rfl⟩, rfl, fun _ _ _ _ _ => y_t (y_tnotSgn (de_var 2) de_str e_t3) (sm h), fun y _ h => ?_⟩; exact fun _ _ _ _ _ => y_as (en := PyData.str) (de_var 2) (sm h))))) (de_fz dn_nilL) e_t5) (fun hk => by have h := ifF e_t7 hk; obtain ⟨t6, e_t6, h⟩ := bs h; have h := sm h; subst h; exact (dw_or1 (dt_gt (y_lenS (de_var 1) e_t6 B) de_int))) (fun hk => ⟨(sm (ifT e_t7 hk)).symm, rfl⟩))) (fun hk => ⟨(sm (ifT e_t8 hk)).symm, rfl⟩))) (fun hc => ?_) (fun hc => ?_)
    · have h := ifT h hc
      exact ds_ret (d := ((eO PyData.int) none)) de_non (by
        have h := sm h
        subst h
        exact rfl)
    · have h := ifF h hc
      refine ds_nil ?_
      obtain ⟨t9, e_t9, h⟩ := bs h
      exact ds_ret (d := ((eO PyData.int) (some t9))) (y_intS (de_var 0) e_t9 B.int) (by
        have h := sm h
        subst h
        exact rfl)

theorem sc__law_one_part : FnScope ["part", "at", "one", "power", "head"] ["part"] (defScope s__law_one_part) := ⟨rfl, rfl, rfl, by decide +kernel, rfl, by decide +kernel, by decide +kernel⟩
theorem c__law_one_part (D : Def K mg "_law_one_part" s__law_one_part ["part"]) (C__law_whole_of : Cal P w K mg base k "_law_whole_of" ["word"] (spP K (RY1 PyData.str (eO PyData.int) y__law_whole_of))) : Cal P w K mg base (k + 1) "_law_one_part" ["part"] (spP K (RY1 PyData.str (eO (eP PyData.int PyData.int)) y__law_one_part))  := by
  refine cal_pure D sc__law_one_part (fun ds r h => ?_) (by decide) (fun f cdv A outer s H G E ds r hr h => ?_)
  · obtain ⟨_, _, rfl, _⟩ := h; rfl
  · obtain ⟨v_part, v, rfl, h, rfl⟩ := h
    refine ds_to (Γ := [.dat (PyData.str v_part), .no, .no, .no, .no]) ?_ rfl
    obtain ⟨v_at, e_v_at, h⟩ := bs h
    refine y_set (en := PyData.int) (v := (Txt.find v_part ("x" : Str))) 1 (sm e_v_at) (y_find (de_var 0) de_str) ?_ sc__law_one_part.nd
    refine ds_if (dt_lt (de_var 1) de_int) (fun hc => ?_) (fun hc => ?_)
    · have h := ifT h hc
      obtain ⟨t, e_t, h⟩ := bs h
      refine y_set (en := (eO PyData.int)) (v := t) 2 rfl (dc C__law_whole_of hr (da_cons (de_var 0) da_nil) ⟨_, _, rfl, e_t, rfl⟩) ?_ sc__law_one_part.nd
      obtain ⟨t2, e_t2, h⟩ := bs h
      exact ds_ret (d := ((eO (eP PyData.int PyData.int)) t2)) (de_if (y_t (dt_isN (de_var 2)) (isNon_O (en := PyData.int) (fun _ => rfl) t)) (fun hk => by have h := ifT e_t2 hk; exact y_as (en := (eO (eP PyData.int PyData.int))) de_non (sm h)) (fun hk => by have h := ifF e_t2 hk; obtain ⟨t1, e_t1, h⟩ := bs h; exact y_as (en := (eO (eP PyData.int PyData.int))) (y_tup (ds := [(PyData.int t1), (PyData.int (0 : Int))]) (da_cons (opt_as (de_var 2) e_t1) (da_cons de_int da_nil))) (sm h))) (by
        have h := sm h
        subst h
        exact rfl)
    · have h := ifF h hc
      refine ds_nil ?_
      obtain ⟨v_power, e_v_power, h⟩ := bs h
      refine y_set (en := (eO PyData.int)) (v := (some (1 : Int))) 3 (sm e_v_power) de_int ?_ sc__law_one_part.nd
      obtain ⟨t3, e_t3, h⟩ := bs h
      obtain ⟨j, e_j, h⟩ := bs h
      refine ds_cut (fun Γ => Γ = [.dat (PyData.str v_part), .dat (PyData.int v_at), .no, .dat ((eO PyData.int) j), .no]) (fun Γ hJ => ?_) (fun tail => ?_)
      rotate_left
      · have h := e_j
        refine ds_if (dt_neS (y_slS (de_var 0) (do_some (de_add (de_var 1) de_int)) do_none e_t3) de_str) (fun hc => ?_) (fun hc => ?_)
        · have h := ifT h hc
          obtain ⟨t4, e_t4, h⟩ := bs h
          obtain ⟨t7, e_t7, h⟩ := bs h
          refine y_set (en := (eO PyData.int)) (v := t7) 3 rfl (de_if (dt_eqS (y_ixS (de_var 0) (de_add (de_var 1) de_int) e_t4) de_str) (fun hk => by have h := ifT e_t7 hk; obtain ⟨t5, e_t5, h⟩ := bs h; obtain ⟨t6, e_t6, h⟩ := bs h; exact y_as (en := (eO PyData.int)) (dc C__law_whole_of hr (da_cons (y_slS (de_var 0) (do_some (de_add (de_var 1) de_int)) do_none e_t5) da_nil) ⟨_, _, rfl, e_t6, rfl⟩) (sm h)) (fun hk => by have h := ifF e_t7 hk; exact y_as (en := (eO PyData.int)) de_non (sm h))) ?_ sc__law_one_part.nd
          have h := sm h
          subst h
          exact ds_skip (tail _ rfl)
        · have h := ifF h hc
          have h := sm h
          subst h
          exact ds_skip (tail _ rfl)
      subst hJ
      obtain ⟨t8, e_t8, h⟩ := bs h
      refine y_set (en := PyData.str) (v := t8) 4 rfl (y_slS (de_var 0) do_none (do_some (de_var 1)) e_t8) ?_ sc__law_one_part.nd
      obtain ⟨t12, e_t12, h⟩ := bs h
      refine y_set (en := (eO PyData.int)) (v := t12) 2 rfl (de_if (y_tinS (x := t8) (ys := [("" : Str), ("-" : Str)]) (de_var 4) (de_fz (y_lst (ds := [("" : Str), ("-" : Str)].map PyData.str) (da_cons de_str (da_cons de_str da_nil))))) (fun hk => by have h := ifT e_t12 hk; obtain ⟨t9, e_t9, h⟩ := bs h; obtain ⟨t10, e_t10, h⟩ := bs h; exact y_as (en := (eO PyData.int)) (dc C__law_whole_of hr (da_cons (y_addS (de_var 4) de_str e_t9) da_nil) ⟨_, _, rfl, e_t10, rfl⟩) (sm h)) (fun hk => by have h := ifF e_t12 hk; obtain ⟨t11, e_t11, h⟩ := bs h; exact y_as (en := (eO PyData.int)) (dc C__law_whole_of hr (da_cons (de_var 4) da_nil) ⟨_, _, rfl, e_t11, rfl⟩) (sm h))) ?_ sc__law_one_part.nd
      obtain ⟨t17, e_t17, h⟩ := bs h
      obtain ⟨t20, e_t20, h⟩ := bs h
      exact ds_ret (d := ((eO (eP PyData.int PyData.int)) t20)) (de_if (PW.pt (y_wor (w := t17) (y_t (dt_isN (de_var 2)) (isNon_O (en := PyData.int) (fun _ => rfl) t12)) (fun hk => by have h := ifF e_t17 hk; obtain ⟨t16, e_t16, h⟩ := bs h; have h := sm h; subst h; exact (y_wor (w := t16) (y_t (dt_isN (de_var 3)) (isNon_O (en := PyData.int) (fun _ => rfl) j)) (fun hk => by have h := ifF e_t16 hk; obtain ⟨t13, e_t13, h⟩ := bs h; obtain ⟨t15, e_t15, h⟩ := bs h; have h := sm h; subst h; exact (y_wor (w := t15) (dt_lt (opt_as (de_var 3) e_t13) de_int) (fun hk => by have h := ifF e_t15 hk; obtain ⟨t14, e_t14, h⟩ := bs h; have h := sm h; subst h; exact (dw_or1 (dt_gt (opt_as (de_var 3) e_t14) de_int))) (fun hk => ⟨(sm (ifT e_t15 hk)).symm, rfl⟩))) (fun hk => ⟨(sm (ifT e_t16 hk)).symm, rfl⟩))) (fun hk => ⟨(sm (ifT e_t17 hk)).symm, rfl⟩))) (fun hk => by have h := ifT e_t20 hk; exact y_as (en := (eO (eP PyData.int PyData.int))) de_non (sm h)) (fun hk => by have h := ifF e_t20 hk; obtain ⟨t18, e_t18, h⟩ := bs h; obtain ⟨t19, e_t19, h⟩ := bs h; exact y_as (en := (eO (eP PyData.int PyData.int))) (y_tup (ds := [(PyData.int t18), (PyData.int t19)]) (da_cons (opt_as (de_var 2) e_t18) (da_cons (opt_as (de_var 3) e_t19) da_nil))) (sm h))) (by
        have h := sm h
        subst h
        exact rfl)

theorem sc__law_poly_in : FnScope ["text", "row", "part", "found", "f"] ["text"] (defScope s__law_poly_in) := ⟨rfl, rfl, rfl, by decide +kernel, rfl, by decide +kernel, by decide +kernel⟩
theorem c__law_poly_in (D : Def K mg "_law_poly_in" s__law_poly_in ["text"]) (C__law_one_part : Cal P w K mg base k "_law_one_part" ["part"] (spP K (RY1 PyData.str (eO (eP PyData.int PyData.int)) y__law_one_part))) (C__law_trim : Cal P w K mg base k "_law_trim" ["row"] (spP K (RY1 (eS PyData.int) (eT PyData.int) y__law_trim))) (C__law_poly_text : Cal P w K mg base k "_law_poly_text" ["f"] (spP K (RY1 (eT PyData.int) PyData.str y__law_poly_text))) : Cal P w K mg base (k + 1) "_law_poly_in" ["text"] (spP K (RY1 PyData.str (eO (eT PyData.int)) y__law_poly_in))  := by
  refine cal_pure D sc__law_poly_in (fun ds r h => ?_) (by decide) (fun f cdv A outer s H G E ds r hr h => ?_)
  · obtain ⟨_, _, rfl, _⟩ := h; rfl
  · obtain ⟨v_text, v, rfl, h, rfl⟩ := h
    refine ds_to (Γ := [.dat (PyData.str v_text), .no, .no, .no, .no]) ?_ rfl
    obtain ⟨t, e_t, h⟩ := bs h
    refine y1_setN (v := t) 1 rfl (y1_rep de_int e_t) ?_ sc__law_poly_in.nd
    obtain ⟨t1, e_t1, h⟩ := bs h
    obtain ⟨t2, e_t2, h⟩ := bs h
    obtain ⟨c, e_c, hL⟩ := bs h
    refine yt_forC (en := PyData.str) (fun s : (List Int) => [.dat (PyData.str v_text), .own (s.map PyData.int), .no, .no, .no]) _ e_c (yit_list (yt_split (yt_repl (de_var 0) e_t1) de_str e_t2)) (pt_name 2 sc__law_poly_in.nd) (passes_of rfl) (fun s x v' h hK => ⟨_, ⟨rfl, rfl, rfl⟩, ?_⟩) (fun r hr1 => ?_)
    · clear e_c
      refine ds_if (dt_neS (de_var 2) de_str) (fun hc => ?_) (fun hc => ?_)
      · have h := ifT h hc
        obtain ⟨t3, e_t3, h⟩ := bs h
        refine y_set (en := (eO (eP PyData.int PyData.int))) (v := t3) 3 rfl (dc C__law_one_part hr (da_cons (de_var 2) da_nil) ⟨_, _, rfl, e_t3, rfl⟩) ?_ sc__law_poly_in.nd
        refine ds_if (y_t (dt_isN (de_var 3)) (isNon_O (en := (eP PyData.int PyData.int)) (fun _ => rfl) t3)) (fun hc => ?_) (fun hc => ?_)
        · have h := ifT h hc
          exact ds_ret (d := ((eO (eT PyData.int)) none)) de_non (by
            have q := hK _ (sm h).symm
            subst q
            have h := sm hL
            subst h
            exact rfl)
        · have h := ifF h hc
          refine ds_nil ?_
          obtain ⟨t4, e_t4, h⟩ := bs h
          obtain ⟨t5, e_t5, h⟩ := bs h
          obtain ⟨t6, e_t6, h⟩ := bs h
          refine y_item (xs := s) (en := PyData.int) 1 (de_ix (d := (PyData.int t4.1)) (opt_as (de_var 3) e_t4) de_int rfl) (de_varO 1) (de_ix (d := (PyData.int t5.2)) (opt_as (de_var 3) e_t5) de_int rfl) e_t6 ?_
          refine ds_nil ?_
          have h := sm h
          subst h
          refine ds_drop 3 ?_
          refine ds_drop 2 ?_
          exact ds_nil ⟨_, rfl, rfl⟩
      · have h := ifF h hc
        refine ds_nil ?_
        have h := sm h
        subst h
        refine ds_drop 2 ?_
        exact ds_nil ⟨_, rfl, rfl⟩
    · subst hr1
      have h := hL
      refine ds_fz (xs := r.map PyData.int) 1 ?_
      obtain ⟨t7, e_t7, h⟩ := bs h
      refine y_set (en := (eT PyData.int)) (v := t7) 4 rfl (dc C__law_trim hr (da_cons (de_var 1) da_nil) ⟨_, _, rfl, e_t7, rfl⟩) ?_ sc__law_poly_in.nd
      obtain ⟨t8, e_t8, h⟩ := bs h
      exact ds_ret (d := ((eO (eT PyData.int)) (if (decide (t8 = v_text)) = true then (some t7) else none))) (de_if (dt_eqS (dc C__law_poly_text hr (da_cons (de_var 4) da_nil) ⟨_, _, rfl, e_t8, rfl⟩) (de_var 0)) (fun hk => y_as (en := (eO (eT PyData.int))) (de_var 4) (if_pos hk).symm) (fun hk => y_as (en := (eO (eT PyData.int))) de_non (if_neg (by rw [hk]; decide)).symm)) (by
        have h := sm h
        subst h
        exact rfl)

theorem sc__law_spoilt : FnScope ["bag", "text", "at", "mark", "way", "to"] ["bag", "text"] (defScope s__law_spoilt) := ⟨rfl, rfl, rfl, by decide +kernel, rfl, by decide +kernel, by decide +kernel⟩
theorem c__law_spoilt (D : Def K mg "_law_spoilt" s__law_spoilt ["bag", "text"]) (B : Bt mg) (C__law_take : Cal P w K mg base k "_law_take" ["bag", "many"] (spB K R_take)) : Cal P w K mg base (k + 1) "_law_spoilt" ["bag", "text"] (spB K (RYB1 PyData.str PyData.str y__law_spoiltS))  := by
  refine cal_bag D sc__law_spoilt (fun xs ds d xs' h => ?_) (by decide) (fun f cdv A outer s H G E p xs ds d xs' hr h => ?_)
  · obtain ⟨_, _, _, _, rfl, _⟩ := h; rfl
  · obtain ⟨b, v_text, v, rfl, rfl, h, rfl, rfl⟩ := h
    refine ds_to (Γ := [.own (bagD b), .dat (PyData.str v_text), .no, .no, .no, .no]) ?_ rfl
    obtain ⟨t, e_t, h⟩ := bs h
    obtain ⟨t1, e_t1, h⟩ := bs h
    refine y_set (en := PyData.int) (v := t1.1) 2 rfl (dcb C__law_take hr (da_cons (de_varO 0) (da_cons (de_add (y_lenS (de_var 1) e_t B) de_int) da_nil)) (takeC_R (v := t1) e_t1)) ?_ sc__law_spoilt.nd
    obtain ⟨t2, e_t2, h⟩ := bs h
    obtain ⟨t3, e_t3, h⟩ := bs h
    refine y_set (en := PyData.str) (v := t3) 3 rfl (y_ixS de_str (dcb C__law_take hr (da_cons (de_varO 0) (da_cons de_int da_nil)) (takeC_R (v := t2) e_t2)) e_t3) ?_ sc__law_spoilt.nd
    obtain ⟨t4, e_t4, h⟩ := bs h
    refine y_set (en := PyData.int) (v := t4.1) 4 rfl (dcb C__law_take hr (da_cons (de_varO 0) (da_cons de_int da_nil)) (takeC_R (v := t4) e_t4)) ?_ sc__law_spoilt.nd
    refine ds_if (dt_eqI (de_var 4) de_int) (fun hc => ?_) (fun hc => ?_)
    · have h := ifT h hc
      obtain ⟨t5, e_t5, h⟩ := bs h
      obtain ⟨t6, e_t6, h⟩ := bs h
      obtain ⟨t7, e_t7, h⟩ := bs h
      obtain ⟨t8, e_t8, h⟩ := bs h
      exact ds_ret (d := (PyData.str t8)) (y_addS (y_addS (y_slS (de_var 1) do_none (do_some (de_var 2)) e_t5) (de_var 3) e_t6) (y_slS (de_var 1) (do_some (de_var 2)) do_none e_t7) e_t8) (by
        have h := sm h
        subst h
        exact ⟨rfl, rfl⟩)
    · have h := ifF h hc
      refine ds_nil ?_
      refine ds_if (dt_eqI (de_var 4) de_int) (fun hc => ?_) (fun hc => ?_)
      · have h := ifT h hc
        obtain ⟨t9, e_t9, h⟩ := bs h
        obtain ⟨t10, e_t10, h⟩ := bs h
        obtain ⟨t11, e_t11, h⟩ := bs h
        exact ds_ret (d := (PyData.str t11)) (y_addS (y_slS (de_var 1) do_none (do_some (de_var 2)) e_t9) (y_slS (de_var 1) (do_some (de_add (de_var 2) de_int)) do_none e_t10) e_t11) (by
          have h := sm h
          subst h
          exact ⟨rfl, rfl⟩)
      · have h := ifF h hc
        refine ds_nil ?_
        refine ds_if (dt_eqI (de_var 4) de_int) (fun hc => ?_) (fun hc => ?_)
        · have h := ifT h hc
          obtain ⟨t12, e_t12, h⟩ := bs h
          obtain ⟨t13, e_t13, h⟩ := bs h
          obtain ⟨t14, e_t14, h⟩ := bs h
          obtain ⟨t15, e_t15, h⟩ := bs h
          exact ds_ret (d := (PyData.str t15)) (y_addS (y_addS (y_slS (de_var 1) do_none (do_some (de_var 2)) e_t12) (de_var 3) e_t13) (y_slS (de_var 1) (do_some (de_add (de_var 2) de_int)) do_none e_t14) e_t15) (by
            have h := sm h
            subst h
            exact ⟨rfl, rfl⟩)
        · have h := ifF h hc
          refine ds_nil ?_
          obtain ⟨t16, e_t16, h⟩ := bs h
          obtain ⟨t17, e_t17, h⟩ := bs h
          refine y_set (en := PyData.int) (v := t17.1) 5 rfl (dcb C__law_take hr (da_cons (de_varO 0) (da_cons (de_add (y_lenS (de_var 1) e_t16 B) de_int) da_nil)) (takeC_R (v := t17) e_t17)) ?_ sc__law_spoilt.nd
          obtain ⟨t18, e_t18, h⟩ := bs h
          obtain ⟨t19, e_t19, h⟩ := bs h
          obtain ⟨t20, e_t20, h⟩ := bs h
          exact ds_ret (d := (PyData.str t20)) (y_addS (y_slS (de_var 1) (do_some (de_min2 (de_var 2) (de_var 5) B.min)) do_none e_t18) (y_slS (de_var 1) do_none (do_some (de_min2 (de_var 2) (de_var 5) B.min)) e_t19) e_t20) (by
            have h := sm h
            subst h
            exact ⟨rfl, rfl⟩)

--! plus 2
theorem sc_law : FnScope ["script", "bag", "row", "k", "text", "turn", "other", "due", "found"] ["script"] (defScope s_law) := ⟨rfl, rfl, rfl, by decide +kernel, rfl, by decide +kernel, by decide +kernel⟩
theorem c_law {f c Pt : Addr} {oc kV doc pm ct : Value} {od an : Option Addr} {osl : Array (Option Value)} (lk : K.lookup f = some ⟨oc, od, .func (PySem.W.fnOf "law" "law" (defArgs s_law) (defBody s_law) (defScope s_law) .none kV doc pm an (.ref c) ct), osl⟩) (hcd : PySem.W.codeIn K (.ref c) "law" = true) (TB : LamX.TabB base mg c Pt) (B : Bt mg) (C__law_take : Cal P w K mg base k "_law_take" ["bag", "many"] (spB K R_take)) (C__law_int : Cal P w K mg base k "_law_int" ["bag"] (spB K (RYB0 PyData.int y__law_int))) (C__law_wide : Cal P w K mg base k "_law_wide" ["bag"] (spB K (RYB0 PyData.int y__law_wide))) (C__law_poly_text : Cal P w K mg base k "_law_poly_text" ["f"] (spP K (RY1 (eT PyData.int) PyData.str y__law_poly_text))) (C__law_trim : Cal P w K mg base k "_law_trim" ["row"] (spP K (RY1 (eS PyData.int) (eT PyData.int) y__law_trim))) (C__law_spoilt : Cal P w K mg base k "_law_spoilt" ["bag", "text"] (spB K (RYB1 PyData.str PyData.str y__law_spoiltS))) (C__law_poly_in : Cal P w K mg base k "_law_poly_in" ["text"] (spP K (RY1 PyData.str (eO (eT PyData.int)) y__law_poly_in))) (C_read_poly : Cal P w K mg base k "read_poly" ["text"] (spP K (RX1 cl PyData.str (eT PyData.int) y_read_poly))) (C__law_same : Cal P w K mg base k "_law_same" ["a", "b"] (spP K (R_same 12))) (X_NoText : Xcl K mg "NoText" (cl .NoText)) (X_RootError : Xcl K mg "RootError" (cl .RootError)) (E_NoText_NoText : PySem.W.exmOne K (.ref (cl .NoText)) (.ref (cl .NoText)) = some true) (D__law_ask : Def K mg "_law_ask" s__law_ask ["deed"]) (C__law_bags : Cal P w K mg base k "_law_bags" ["script", "most"] (spBags K)) : FnOk P w K mg base (L2.CX P w) (k + 3) f (PySem.W.fnOf "law" "law" (defArgs s_law) (defBody s_law) (defScope s_law) .none kV doc pm an (.ref c) ct) ["script"] (spLaw K (lawT Pt)) := by
  have askM : ∀ c p, askN_k51 c = some p → manyD K [.str p.1, .str p.2] [(.ref (cl .NoText), [.str "refused", .str "NoText"]), (.ref (cl .RootError), [.str "refused", .str "other"])] (.ref (cl c)) := by
    intro c p h
    cases c
    case NoText => cases h; exact .inl ⟨E_NoText_NoText, rfl⟩
    all_goals cases h
  refine law_mkT (k := k + 2) lk hcd sc_law (fun A outer s H E hr => law_loop 1 (bags_call C__law_bags (hr.mono (by omega))) sc_law.nd rfl (passes_of rfl) (by decide) (fun H' p b ok nt => ?_))
  have hr0 := hr.mono (show k ≤ k + 2 by omega)
  refine ds_ask (ask_mk D__law_ask sc__law_ask (.inl rfl) (ask_given X_NoText X_RootError) TB rfl lawQ rfl rfl) fun ask => ?_
  have h := m_law_k51 b ok
  refine ds_to (Γ := [.no, .own (bagD b), .no, .no, .no, .no, .no, .no, .no]) ?_ rfl
  obtain ⟨t, e_t, h⟩ := bs h
  obtain ⟨t1, e_t1, h⟩ := bs h
  obtain ⟨t6, e_t6, h⟩ := bs h
  refine ds_setLD 2 (y_lcB (own := [("k", 3)]) (en := PyData.int) (em := PyData.int) _ (fun b => [.no, .own (bagD b), .no, .no, .no, .no, .no, .no, .no]) e_t6 (yi_range1 (dcb C__law_take hr0 (da_cons (de_varO 1) (da_cons de_int da_nil)) (takeC_R (v := t) e_t)) B e_t1) (tgt_name 3) sc_law.nd (blkOk_by (own := [("k", 3)]) (N := ["script", "bag", "row", "k", "text", "turn", "other", "due", "found"]) (sc := defScope s_law) (by decide +kernel)) (fun _ _ _ _ _ => pg_name sc_law.nd rfl (by first | exact .inl rfl | exact .inr rfl)) (fun b1 x1 y h => by obtain ⟨t2, e_t2, h⟩ := bs h; obtain ⟨t3, e_t3, h⟩ := bs h; obtain ⟨t4, e_t4, h⟩ := bs h; obtain ⟨t5, e_t5, h⟩ := bs h; have h := sm h; subst h; exact ⟨_, _, ⟨rfl, rfl, rfl⟩, rfl, fun _ _ _ _ _ => (y_ix (en := PyData.int) (de_fz (y_lst (ds := [(0 : Int), (1 : Int), (-(1 : Int)), t2.1, t3.1].map PyData.int) (da_cons de_int (da_cons de_int (da_cons (de_neg de_int) (da_cons (dcb C__law_int hr0 (da_cons (de_varO 1) da_nil) ⟨_, t2, rfl, rfl, e_t2, rfl, rfl⟩) (da_cons (dcb C__law_wide hr0 (da_cons (de_varO 1) da_nil) ⟨_, t3, rfl, rfl, e_t3, rfl, rfl⟩) da_nil))))))) (dcb C__law_take hr0 (da_cons (de_varO 1) (da_cons de_int da_nil)) (takeC_R (v := t4) e_t4)) e_t5)⟩)) ?_ sc_law.nd
  obtain ⟨t7, e_t7, h⟩ := bs h
  obtain ⟨t8, e_t8, h⟩ := bs h
  refine y_set (en := PyData.str) (v := t8) 4 rfl (dc C__law_poly_text hr0 (da_cons (dc C__law_trim hr0 (da_cons (de_var 2) da_nil) ⟨_, _, rfl, e_t7, rfl⟩) da_nil) ⟨_, _, rfl, e_t8, rfl⟩) ?_ sc_law.nd
  obtain ⟨t9, e_t9, h⟩ := bs h
  obtain ⟨c, e_c, hL⟩ := bs h
  refine y_forC (en := PyData.int) (fun s : Bag => [.no, .own (bagD s), .dat ((eL PyData.int) t6.1), .no, .dat (PyData.str t8), .no, .no, .no, .no]) _ e_c (yi_range1 de_int B e_t9) (pt_name 5 sc_law.nd) (passes_of rfl) (fun s x v' h hK => ⟨_, ⟨rfl, rfl, rfl⟩, ?_⟩) (fun r hr1 => ?_)
  · clear e_c
    refine ds_to (Γ := [.no, .own (bagD s), .dat ((eL PyData.int) t6.1), .no, .dat (PyData.str t8), .dat (PyData.int x), .no, .no, .no]) ?_ rfl
    obtain ⟨t10, e_t10, h⟩ := bs h
    refine y_set (en := PyData.str) (v := t10.1) 6 rfl (dcb C__law_spoilt hr0 (da_cons (de_varO 1) (da_cons (de_var 4) da_nil)) ⟨_, _, t10, rfl, rfl, e_t10, rfl, rfl⟩) ?_ sc_law.nd
    obtain ⟨t11, e_t11, h⟩ := bs h
    obtain ⟨j, e_j, h⟩ := bs h
    refine ds_cut (fun Γ => Γ = [.no, .own (bagD j.2), .dat ((eL PyData.int) t6.1), .no, .dat (PyData.str t8), .dat (PyData.int x), .dat (PyData.str j.1), .no, .no]) (fun Γ hJ => ?_) (fun tail => ?_)
    rotate_left
    · have h := e_j
      refine ds_if (dt_eqI (dcb C__law_take hr0 (da_cons (de_varO 1) (da_cons de_int da_nil)) (takeC_R (v := t11) e_t11)) de_int) (fun hc => ?_) (fun hc => ?_)
      · have h := ifT h hc
        obtain ⟨t12, e_t12, h⟩ := bs h
        refine y_set (en := PyData.str) (v := t12.1) 6 rfl (dcb C__law_spoilt hr0 (da_cons (de_varO 1) (da_cons (de_var 6) da_nil)) ⟨_, _, t12, rfl, rfl, e_t12, rfl, rfl⟩) ?_ sc_law.nd
        have h := sm h
        subst h
        exact ds_skip (tail _ rfl)
      · have h := ifF h hc
        have h := sm h
        subst h
        exact ds_skip (tail _ rfl)
    subst hJ
    refine ds_to (Γ := [.no, .own (bagD j.2), .dat ((eL PyData.int) t6.1), .no, .dat (PyData.str t8), .dat (PyData.int x), .dat (PyData.str j.1), .no, .no]) ?_ rfl
    obtain ⟨t13, e_t13, h⟩ := bs h
    refine y_set (en := (eO (eT PyData.int))) (v := t13) 7 rfl (dc C__law_poly_in hr0 (da_cons (de_var 6) da_nil) ⟨_, _, rfl, e_t13, rfl⟩) ?_ sc_law.nd
    obtain ⟨t14, e_t14, h⟩ := bs h
    obtain ⟨t15, e_t15, h⟩ := bs h
    refine y_set (en := eD) (v := t15) 8 rfl (y_ask (cl := cl) (z := t14) ask nt hr (LamX.lamS_by (sc := defScope s_law) (by decide +kernel)) askM e_t15 (fun t hz _ _ _ _ _ _ _ hr1 => by subst hz; exact dc C_read_poly hr1 (da_cons (de_var 6) da_nil) ⟨_, _, rfl, e_t14, rfl⟩) (fun c hz _ _ _ _ _ _ _ hr1 => by subst hz; exact de_callX C_read_poly hr1 (takes_of rfl rfl rfl rfl) (da_cons (de_var 6) da_nil) ⟨_, _, rfl, e_t14, rfl⟩)) ?_ sc_law.nd
    obtain ⟨t17, e_t17, h⟩ := bs h
    refine ds_if (PW.pt (y_wand (w := t17) (y_t (dt_isN (de_var 7)) (isNon_O (en := (eT PyData.int)) (fun _ => rfl) t13)) (fun hk => by have h := ifT e_t17 hk; obtain ⟨t16, e_t16, h⟩ := bs h; have h := sm h; subst h; exact (dw_and1 (y_tneQ (da := t15) (db := ((eP PyData.str PyData.str) (("refused" : Str), ("NoText" : Str)))) hr0 (de_var 8) (y_tup (ds := [(PyData.str ("refused" : Str)), (PyData.str ("NoText" : Str))]) (da_cons de_str (da_cons de_str da_nil))) e_t16))) (fun hk => ⟨(sm (ifF e_t17 hk)).symm, rfl⟩))) (fun hc => ?_) (fun hc => ?_)
    · have h := ifT h hc
      exact ds_ret de_bl (by have q := hK _ (sm h).symm; subst q; cases hL)
    · have h := ifF h hc
      refine ds_nil ?_
      refine ds_to (Γ := [.no, .own (bagD j.2), .dat ((eL PyData.int) t6.1), .no, .dat (PyData.str t8), .dat (PyData.int x), .dat (PyData.str j.1), .dat ((eO (eT PyData.int)) t13), .dat t15]) ?_ rfl
      obtain ⟨t19, e_t19, h⟩ := bs h
      refine ds_if (PW.pt (y_wand (w := t19) (y_t (dt_notN (de_var 7)) (congrArg (!·) (isNon_O (en := (eT PyData.int)) (fun _ => rfl) t13))) (fun hk => by have h := ifT e_t19 hk; obtain ⟨t18, e_t18, h⟩ := bs h; have h := sm h; subst h; exact (dw_and1 (dt_not (dt_b (dc C__law_same hr0 (da_cons (de_var 8) (da_cons (y_tup (ds := [(PyData.str ("told" : Str)), ((eO (eT PyData.int)) t13)]) (da_cons de_str (da_cons (de_var 7) da_nil))) da_nil)) (sameC_R e_t18)))))) (fun hk => ⟨(sm (ifF e_t19 hk)).symm, rfl⟩))) (fun hc => ?_) (fun hc => ?_)
      · have h := ifT h hc
        exact ds_ret de_bl (by have q := hK _ (sm h).symm; subst q; cases hL)
      · have h := ifF h hc
        refine ds_nil ?_
        have h := sm h
        subst h
        refine ds_drop 6 ?_
        refine ds_drop 7 ?_
        refine ds_drop 8 ?_
        refine ds_drop 5 ?_
        exact ds_nil ⟨_, rfl, rfl⟩
  · subst hr1
    have h := hL
    exact ds_nil rfl

end
end
end
theorem all_mk {l : PySem.W.OpenLaw} {w : World} {K : PySem.W.Frag} {h : Heap} {mg : Str → Option Value} {fa : Addr} (X : K.In h) (G : h.Ns mainGlobals mg) (hfa : mg "law" = some (.ref fa))
    {f_trimmed : Addr} {od_trimmed an_trimmed : Option Addr} {sl_trimmed : Array (Option Value)} {oc_trimmed kV_trimmed dc_trimmed pm_trimmed ct_trimmed : Value} {cd_trimmed : Value} (a_trimmed : PySem.W.nsIn K mainGlobals "trimmed" = some (some (.ref f_trimmed)))
     (l_trimmed : K.lookup f_trimmed = some ⟨oc_trimmed, od_trimmed, .func (PySem.W.fnOf "trimmed" "trimmed" (defArgs s_trimmed) (defBody s_trimmed) (defScope s_trimmed) .none kV_trimmed dc_trimmed pm_trimmed an_trimmed cd_trimmed ct_trimmed), sl_trimmed⟩)
     (h_trimmed : PySem.W.codeIn K cd_trimmed "trimmed" = true)
     (k_trimmed : PySem.W.keepIn K (.ref f_trimmed) = true)
    {f_degree_of : Addr} {od_degree_of an_degree_of : Option Addr} {sl_degree_of : Array (Option Value)} {oc_degree_of kV_degree_of dc_degree_of pm_degree_of ct_degree_of : Value} {cd_degree_of : Value} (a_degree_of : PySem.W.nsIn K mainGlobals "degree_of" = some (some (.ref f_degree_of)))
     (l_degree_of : K.lookup f_degree_of = some ⟨oc_degree_of, od_degree_of, .func (PySem.W.fnOf "degree_of" "degree_of" (defArgs s_degree_of) (defBody s_degree_of) (defScope s_degree_of) .none kV_degree_of dc_degree_of pm_degree_of an_degree_of cd_degree_of ct_degree_of), sl_degree_of⟩)
     (h_degree_of : PySem.W.codeIn K cd_degree_of "degree_of" = true)
     (k_degree_of : PySem.W.keepIn K (.ref f_degree_of) = true)
    {f_term_text : Addr} {od_term_text an_term_text : Option Addr} {sl_term_text : Array (Option Value)} {oc_term_text kV_term_text dc_term_text pm_term_text ct_term_text : Value} {cd_term_text : Value} (a_term_text : PySem.W.nsIn K mainGlobals "term_text" = some (some (.ref f_term_text)))
     (l_term_text : K.lookup f_term_text = some ⟨oc_term_text, od_term_text, .func (PySem.W.fnOf "term_text" "term_text" (defArgs s_term_text) (defBody s_term_text) (defScope s_term_text) .none kV_term_text dc_term_text pm_term_text an_term_text cd_term_text ct_term_text), sl_term_text⟩)
     (h_term_text : PySem.W.codeIn K cd_term_text "term_text" = true)
     (k_term_text : PySem.W.keepIn K (.ref f_term_text) = true)
    {f_poly_text : Addr} {od_poly_text an_poly_text : Option Addr} {sl_poly_text : Array (Option Value)} {oc_poly_text kV_poly_text dc_poly_text pm_poly_text ct_poly_text : Value} {cd_poly_text : Value} (a_poly_text : PySem.W.nsIn K mainGlobals "poly_text" = some (some (.ref f_poly_text)))
     (l_poly_text : K.lookup f_poly_text = some ⟨oc_poly_text, od_poly_text, .func (PySem.W.fnOf "poly_text" "poly_text" (defArgs s_poly_text) (defBody s_poly_text) (defScope s_poly_text) .none kV_poly_text dc_poly_text pm_poly_text an_poly_text cd_poly_text ct_poly_text), sl_poly_text⟩)
     (h_poly_text : PySem.W.codeIn K cd_poly_text "poly_text" = true)
     (k_poly_text : PySem.W.keepIn K (.ref f_poly_text) = true)
    {f_whole_from : Addr} {od_whole_from an_whole_from : Option Addr} {sl_whole_from : Array (Option Value)} {oc_whole_from kV_whole_from dc_whole_from pm_whole_from ct_whole_from : Value} {cd_whole_from : Value} (a_whole_from : PySem.W.nsIn K mainGlobals "whole_from" = some (some (.ref f_whole_from)))
     (l_whole_from : K.lookup f_whole_from = some ⟨oc_whole_from, od_whole_from, .func (PySem.W.fnOf "whole_from" "whole_from" (defArgs s_whole_from) (defBody s_whole_from) (defScope s_whole_from) .none kV_whole_from dc_whole_from pm_whole_from an_whole_from cd_whole_from ct_whole_from), sl_whole_from⟩)
     (h_whole_from : PySem.W.codeIn K cd_whole_from "whole_from" = true)
     (k_whole_from : PySem.W.keepIn K (.ref f_whole_from) = true)
    {f_term_from : Addr} {od_term_from an_term_from : Option Addr} {sl_term_from : Array (Option Value)} {oc_term_from kV_term_from dc_term_from pm_term_from ct_term_from : Value} {cd_term_from : Value} (a_term_from : PySem.W.nsIn K mainGlobals "term_from" = some (some (.ref f_term_from)))
     (l_term_from : K.lookup f_term_from = some ⟨oc_term_from, od_term_from, .func (PySem.W.fnOf "term_from" "term_from" (defArgs s_term_from) (defBody s_term_from) (defScope s_term_from) .none kV_term_from dc_term_from pm_term_from an_term_from cd_term_from ct_term_from), sl_term_from⟩)
     (h_term_from : PySem.W.codeIn K cd_term_from "term_from" = true)
     (k_term_from : PySem.W.keepIn K (.ref f_term_from) = true)
    {f_poly_from : Addr} {od_poly_from an_poly_from : Option Addr} {sl_poly_from : Array (Option Value)} {oc_poly_from kV_poly_from dc_poly_from pm_poly_from ct_poly_from : Value} {cd_poly_from : Value} (a_poly_from : PySem.W.nsIn K mainGlobals "poly_from" = some (some (.ref f_poly_from)))
     (l_poly_from : K.lookup f_poly_from = some ⟨oc_poly_from, od_poly_from, .func (PySem.W.fnOf "poly_from" "poly_from" (defArgs s_poly_from) (defBody s_poly_from) (defScope s_poly_from) .none kV_poly_from dc_poly_from pm_poly_from an_poly_from cd_poly_from ct_poly_from), sl_poly_from⟩)
     (h_poly_from : PySem.W.codeIn K cd_poly_from "poly_from" = true)
     (k_poly_from : PySem.W.keepIn K (.ref f_poly_from) = true)
    {f_read_poly : Addr} {od_read_poly an_read_poly : Option Addr} {sl_read_poly : Array (Option Value)} {oc_read_poly kV_read_poly dc_read_poly pm_read_poly ct_read_poly : Value} {cd_read_poly : Value} (a_read_poly : PySem.W.nsIn K mainGlobals "read_poly" = some (some (.ref f_read_poly)))
     (l_read_poly : K.lookup f_read_poly = some ⟨oc_read_poly, od_read_poly, .func (PySem.W.fnOf "read_poly" "read_poly" (defArgs s_read_poly) (defBody s_read_poly) (defScope s_read_poly) .none kV_read_poly dc_read_poly pm_read_poly an_read_poly cd_read_poly ct_read_poly), sl_read_poly⟩)
     (h_read_poly : PySem.W.codeIn K cd_read_poly "read_poly" = true)
     (k_read_poly : PySem.W.keepIn K (.ref f_read_poly) = true)
    {f__law_well : Addr} {od__law_well an__law_well : Option Addr} {sl__law_well : Array (Option Value)} {oc__law_well kV__law_well dc__law_well pm__law_well ct__law_well : Value} {cd__law_well : Value} (a__law_well : PySem.W.nsIn K mainGlobals "_law_well" = some (some (.ref f__law_well)))
     (l__law_well : K.lookup f__law_well = some ⟨oc__law_well, od__law_well, .func (PySem.W.fnOf "_law_well" "_law_well" (defArgs s__law_well) (defBody s__law_well) (defScope s__law_well) .none kV__law_well dc__law_well pm__law_well an__law_well cd__law_well ct__law_well), sl__law_well⟩)
     (h__law_well : PySem.W.codeIn K cd__law_well "_law_well" = true)
     (k__law_well : PySem.W.keepIn K (.ref f__law_well) = true)
    {f__law_take : Addr} {od__law_take an__law_take : Option Addr} {sl__law_take : Array (Option Value)} {oc__law_take kV__law_take dc__law_take pm__law_take ct__law_take : Value} {cd__law_take : Value} (a__law_take : PySem.W.nsIn K mainGlobals "_law_take" = some (some (.ref f__law_take)))
     (l__law_take : K.lookup f__law_take = some ⟨oc__law_take, od__law_take, .func (PySem.W.fnOf "_law_take" "_law_take" (defArgs s__law_take) (defBody s__law_take) (defScope s__law_take) .none kV__law_take dc__law_take pm__law_take an__law_take cd__law_take ct__law_take), sl__law_take⟩)
     (h__law_take : PySem.W.codeIn K cd__law_take "_law_take" = true)
     (k__law_take : PySem.W.keepIn K (.ref f__law_take) = true)
    {f__law_bags : Addr} {od__law_bags an__law_bags : Option Addr} {sl__law_bags : Array (Option Value)} {oc__law_bags kV__law_bags dc__law_bags pm__law_bags ct__law_bags : Value} {cd__law_bags : Value} (a__law_bags : PySem.W.nsIn K mainGlobals "_law_bags" = some (some (.ref f__law_bags)))
     (l__law_bags : K.lookup f__law_bags = some ⟨oc__law_bags, od__law_bags, .func (PySem.W.fnOf "_law_bags" "_law_bags" (defArgs s__law_bags) (defBody s__law_bags) (defScope s__law_bags) .none kV__law_bags dc__law_bags pm__law_bags an__law_bags cd__law_bags ct__law_bags), sl__law_bags⟩)
     (h__law_bags : PySem.W.codeIn K cd__law_bags "_law_bags" = true)
     (k__law_bags : PySem.W.keepIn K (.ref f__law_bags) = true)
    {f__law_same : Addr} {od__law_same an__law_same : Option Addr} {sl__law_same : Array (Option Value)} {oc__law_same kV__law_same dc__law_same pm__law_same ct__law_same : Value} {cd__law_same : Value} (a__law_same : PySem.W.nsIn K mainGlobals "_law_same" = some (some (.ref f__law_same)))
     (l__law_same : K.lookup f__law_same = some ⟨oc__law_same, od__law_same, .func (PySem.W.fnOf "_law_same" "_law_same" (defArgs s__law_same) (defBody s__law_same) (defScope s__law_same) .none kV__law_same dc__law_same pm__law_same an__law_same cd__law_same ct__law_same), sl__law_same⟩)
     (h__law_same : PySem.W.codeIn K cd__law_same "_law_same" = true)
     (k__law_same : PySem.W.keepIn K (.ref f__law_same) = true)
    {f__law_int : Addr} {od__law_int an__law_int : Option Addr} {sl__law_int : Array (Option Value)} {oc__law_int kV__law_int dc__law_int pm__law_int ct__law_int : Value} {cd__law_int : Value} (a__law_int : PySem.W.nsIn K mainGlobals "_law_int" = some (some (.ref f__law_int)))
     (l__law_int : K.lookup f__law_int = some ⟨oc__law_int, od__law_int, .func (PySem.W.fnOf "_law_int" "_law_int" (defArgs s__law_int) (defBody s__law_int) (defScope s__law_int) .none kV__law_int dc__law_int pm__law_int an__law_int cd__law_int ct__law_int), sl__law_int⟩)
     (h__law_int : PySem.W.codeIn K cd__law_int "_law_int" = true)
     (k__law_int : PySem.W.keepIn K (.ref f__law_int) = true)
    {f__law_wide : Addr} {od__law_wide an__law_wide : Option Addr} {sl__law_wide : Array (Option Value)} {oc__law_wide kV__law_wide dc__law_wide pm__law_wide ct__law_wide : Value} {cd__law_wide : Value} (a__law_wide : PySem.W.nsIn K mainGlobals "_law_wide" = some (some (.ref f__law_wide)))
     (l__law_wide : K.lookup f__law_wide = some ⟨oc__law_wide, od__law_wide, .func (PySem.W.fnOf "_law_wide" "_law_wide" (defArgs s__law_wide) (defBody s__law_wide) (defScope s__law_wide) .none kV__law_wide dc__law_wide pm__law_wide an__law_wide cd__law_wide ct__law_wide), sl__law_wide⟩)
     (h__law_wide : PySem.W.codeIn K cd__law_wide "_law_wide" = true)
     (k__law_wide : PySem.W.keepIn K (.ref f__law_wide) = true)
    {f__law_trim : Addr} {od__law_trim an__law_trim : Option Addr} {sl__law_trim : Array (Option Value)} {oc__law_trim kV__law_trim dc__law_trim pm__law_trim ct__law_trim : Value} {cd__law_trim : Value} (a__law_trim : PySem.W.nsIn K mainGlobals "_law_trim" = some (some (.ref f__law_trim)))
     (l__law_trim : K.lookup f__law_trim = some ⟨oc__law_trim, od__law_trim, .func (PySem.W.fnOf "_law_trim" "_law_trim" (defArgs s__law_trim) (defBody s__law_trim) (defScope s__law_trim) .none kV__law_trim dc__law_trim pm__law_trim an__law_trim cd__law_trim ct__law_trim), sl__law_trim⟩)
     (h__law_trim : PySem.W.codeIn K cd__law_trim "_law_trim" = true)
     (k__law_trim : PySem.W.keepIn K (.ref f__law_trim) = true)
    {f__law_poly_text : Addr} {od__law_poly_text an__law_poly_text : Option Addr} {sl__law_poly_text : Array (Option Value)} {oc__law_poly_text kV__law_poly_text dc__law_poly_text pm__law_poly_text ct__law_poly_text : Value} {cd__law_poly_text : Value} (a__law_poly_text : PySem.W.nsIn K mainGlobals "_law_poly_text" = some (some (.ref f__law_poly_text)))
     (l__law_poly_text : K.lookup f__law_poly_text = some ⟨oc__law_poly_text, od__law_poly_text, .func (PySem.W.fnOf "_law_poly_text" "_law_poly_text" (defArgs s__law_poly_text) (defBody s__law_poly_text) (defScope s__law_poly_text) .none kV__law_poly_text dc__law_poly_text pm__law_poly_text an__law_poly_text cd__law_poly_text ct__law_poly_text), sl__law_poly_text⟩)
     (h__law_poly_text : PySem.W.codeIn K cd__law_poly_text "_law_poly_text" = true)
     (k__law_poly_text : PySem.W.keepIn K (.ref f__law_poly_text) = true)
    {f__law_ask : Addr} {od__law_ask an__law_ask : Option Addr} {sl__law_ask : Array (Option Value)} {oc__law_ask kV__law_ask dc__law_ask pm__law_ask ct__law_ask : Value} {cd__law_ask : Value} (a__law_ask : PySem.W.nsIn K mainGlobals "_law_ask" = some (some (.ref f__law_ask)))
     (l__law_ask : K.lookup f__law_ask = some ⟨oc__law_ask, od__law_ask, .func (PySem.W.fnOf "_law_ask" "_law_ask" (defArgs s__law_ask) (defBody s__law_ask) (defScope s__law_ask) .none kV__law_ask dc__law_ask pm__law_ask an__law_ask cd__law_ask ct__law_ask), sl__law_ask⟩)
     (h__law_ask : PySem.W.codeIn K cd__law_ask "_law_ask" = true)
     (k__law_ask : PySem.W.keepIn K (.ref f__law_ask) = true)
    {f__law_whole_of : Addr} {od__law_whole_of an__law_whole_of : Option Addr} {sl__law_whole_of : Array (Option Value)} {oc__law_whole_of kV__law_whole_of dc__law_whole_of pm__law_whole_of ct__law_whole_of : Value} {cd__law_whole_of : Value} (a__law_whole_of : PySem.W.nsIn K mainGlobals "_law_whole_of" = some (some (.ref f__law_whole_of)))
     (l__law_whole_of : K.lookup f__law_whole_of = some ⟨oc__law_whole_of, od__law_whole_of, .func (PySem.W.fnOf "_law_whole_of" "_law_whole_of" (defArgs s__law_whole_of) (defBody s__law_whole_of) (defScope s__law_whole_of) .none kV__law_whole_of dc__law_whole_of pm__law_whole_of an__law_whole_of cd__law_whole_of ct__law_whole_of), sl__law_whole_of⟩)
     (h__law_whole_of : PySem.W.codeIn K cd__law_whole_of "_law_whole_of" = true)
     (k__law_whole_of : PySem.W.keepIn K (.ref f__law_whole_of) = true)
    {f__law_one_part : Addr} {od__law_one_part an__law_one_part : Option Addr} {sl__law_one_part : Array (Option Value)} {oc__law_one_part kV__law_one_part dc__law_one_part pm__law_one_part ct__law_one_part : Value} {cd__law_one_part : Value} (a__law_one_part : PySem.W.nsIn K mainGlobals "_law_one_part" = some (some (.ref f__law_one_part)))
     (l__law_one_part : K.lookup f__law_one_part = some ⟨oc__law_one_part, od__law_one_part, .func (PySem.W.fnOf "_law_one_part" "_law_one_part" (defArgs s__law_one_part) (defBody s__law_one_part) (defScope s__law_one_part) .none kV__law_one_part dc__law_one_part pm__law_one_part an__law_one_part cd__law_one_part ct__law_one_part), sl__law_one_part⟩)
     (h__law_one_part : PySem.W.codeIn K cd__law_one_part "_law_one_part" = true)
     (k__law_one_part : PySem.W.keepIn K (.ref f__law_one_part) = true)
    {f__law_poly_in : Addr} {od__law_poly_in an__law_poly_in : Option Addr} {sl__law_poly_in : Array (Option Value)} {oc__law_poly_in kV__law_poly_in dc__law_poly_in pm__law_poly_in ct__law_poly_in : Value} {cd__law_poly_in : Value} (a__law_poly_in : PySem.W.nsIn K mainGlobals "_law_poly_in" = some (some (.ref f__law_poly_in)))
     (l__law_poly_in : K.lookup f__law_poly_in = some ⟨oc__law_poly_in, od__law_poly_in, .func (PySem.W.fnOf "_law_poly_in" "_law_poly_in" (defArgs s__law_poly_in) (defBody s__law_poly_in) (defScope s__law_poly_in) .none kV__law_poly_in dc__law_poly_in pm__law_poly_in an__law_poly_in cd__law_poly_in ct__law_poly_in), sl__law_poly_in⟩)
     (h__law_poly_in : PySem.W.codeIn K cd__law_poly_in "_law_poly_in" = true)
     (k__law_poly_in : PySem.W.keepIn K (.ref f__law_poly_in) = true)
    {f__law_spoilt : Addr} {od__law_spoilt an__law_spoilt : Option Addr} {sl__law_spoilt : Array (Option Value)} {oc__law_spoilt kV__law_spoilt dc__law_spoilt pm__law_spoilt ct__law_spoilt : Value} {cd__law_spoilt : Value} (a__law_spoilt : PySem.W.nsIn K mainGlobals "_law_spoilt" = some (some (.ref f__law_spoilt)))
     (l__law_spoilt : K.lookup f__law_spoilt = some ⟨oc__law_spoilt, od__law_spoilt, .func (PySem.W.fnOf "_law_spoilt" "_law_spoilt" (defArgs s__law_spoilt) (defBody s__law_spoilt) (defScope s__law_spoilt) .none kV__law_spoilt dc__law_spoilt pm__law_spoilt an__law_spoilt cd__law_spoilt ct__law_spoilt), sl__law_spoilt⟩)
     (h__law_spoilt : PySem.W.codeIn K cd__law_spoilt "_law_spoilt" = true)
     (k__law_spoilt : PySem.W.keepIn K (.ref f__law_spoilt) = true)
    {f_law : Addr} {od_law an_law : Option Addr} {sl_law : Array (Option Value)} {oc_law kV_law dc_law pm_law ct_law : Value} {ca_law P_law : Addr} (a_law : PySem.W.nsIn K mainGlobals "law" = some (some (.ref f_law)))
     (l_law : K.lookup f_law = some ⟨oc_law, od_law, .func (PySem.W.fnOf "law" "law" (defArgs s_law) (defBody s_law) (defScope s_law) .none kV_law dc_law pm_law an_law (.ref ca_law) ct_law), sl_law⟩)
     (h_law : PySem.W.codeIn K (.ref ca_law) "law" = true)
     (k_law : PySem.W.keepIn K (.ref f_law) = true)
    {ce_law : Value} {cx_law : Option Addr} {cv_law : Array Value} {cs_law : Array (Option Value)} (kc_law : K.lookup ca_law = some ⟨ce_law, cx_law, .fields cv_law, cs_law⟩)
     (c11_law : cv_law[11]? = some (.ref P_law))
     (hd_law : PySem.W.codeHdIn K ca_law P_law = true)
     (np_law : K.lookup P_law = none)
     (ht_law : h.get? P_law = some { cls := .none, data := .fields #[] })
    {t_MOST_FIGURES : Tok} (g_MOST_FIGURES : PySem.W.nsIn K mainGlobals "MOST_FIGURES" = some (some (.int 400 t_MOST_FIGURES)))
    {t_MOST_DEGREE : Tok} (g_MOST_DEGREE : PySem.W.nsIn K mainGlobals "MOST_DEGREE" = some (some (.int 12 t_MOST_DEGREE)))
    {a_NoText : Addr} (xg_NoText : PySem.W.nsIn K mainGlobals "NoText" = some (some (.ref a_NoText)))
     (xk_NoText : PySem.W.keepIn K (.ref a_NoText) = true)
     (xq_NoText : PySem.W.excIn K a_NoText [.type "ValueError", .type "Exception", .type "BaseException", .type "object"] "ValueError.__new__" = true)
     (xs_NoText : PySem.W.subIn K (.ref a_NoText) (.type "BaseException") = some true)
     (xt_NoText : PySem.W.typeIn K (.ref a_NoText) = some (.type "type"))
    {a_RootError : Addr} (xg_RootError : PySem.W.nsIn K mainGlobals "RootError" = some (some (.ref a_RootError)))
     (xk_RootError : PySem.W.keepIn K (.ref a_RootError) = true)
     (xq_RootError : PySem.W.excIn K a_RootError [.type "ValueError", .type "Exception", .type "BaseException", .type "object"] "ValueError.__new__" = true)
     (xs_RootError : PySem.W.subIn K (.ref a_RootError) (.type "BaseException") = some true)
     (xt_RootError : PySem.W.typeIn K (.ref a_RootError) = some (.type "type"))
     (E_NoText_NoText : PySem.W.exmOne K (.ref a_NoText) (.ref a_NoText) = some true)
     (z_isi : PySem.W.nsIn K mainGlobals "isinstance" = some none)
     (z_int : PySem.W.nsIn K mainGlobals "int" = some none)
     (z_bool : PySem.W.nsIn K mainGlobals "bool" = some none)
     (z_str : PySem.W.nsIn K mainGlobals "str" = some none)
     (z_list : PySem.W.nsIn K mainGlobals "list" = some none)
     (z_tuple : PySem.W.nsIn K mainGlobals "tuple" = some none)
     (z_len : PySem.W.nsIn K mainGlobals "len" = some none)
     (z_abs : PySem.W.nsIn K mainGlobals "abs" = some none)
     (z_max : PySem.W.nsIn K mainGlobals "max" = some none)
     (z_min : PySem.W.nsIn K mainGlobals "min" = some none)
     (z_all : PySem.W.nsIn K mainGlobals "all" = some none)
     (z_any : PySem.W.nsIn K mainGlobals "any" = some none)
     (z_sum : PySem.W.nsIn K mainGlobals "sum" = some none)
     (z_range : PySem.W.nsIn K mainGlobals "range" = some none)
     (z_enum : PySem.W.nsIn K mainGlobals "enumerate" = some none)
     (z_zip : PySem.W.nsIn K mainGlobals "zip" = some none)
     (z_sorted : PySem.W.nsIn K mainGlobals "sorted" = some none)
     (z_dict : PySem.W.nsIn K mainGlobals "dict" = some none)
     (z_set : PySem.W.nsIn K mainGlobals "set" = some none)
    : LamX.LawAtS l w K (L2.CX l.prog w) 16 63 "script" mg fa h := by
  have e := hfa.symm.trans (PySem.W.mg_of X G a_law)
  cases e
  have B : Bt mg := ⟨PySem.W.mg_none_of X G z_isi, PySem.W.mg_none_of X G z_int, PySem.W.mg_none_of X G z_bool, PySem.W.mg_none_of X G z_str, PySem.W.mg_none_of X G z_list, PySem.W.mg_none_of X G z_tuple, PySem.W.mg_none_of X G z_len, PySem.W.mg_none_of X G z_abs, PySem.W.mg_none_of X G z_max, PySem.W.mg_none_of X G z_min, PySem.W.mg_none_of X G z_all, PySem.W.mg_none_of X G z_any, PySem.W.mg_none_of X G z_sum, PySem.W.mg_none_of X G z_range, PySem.W.mg_none_of X G z_enum, PySem.W.mg_none_of X G z_zip, PySem.W.mg_none_of X G z_sorted, PySem.W.mg_none_of X G z_dict, PySem.W.mg_none_of X G z_set⟩
  have F_trimmed := fun_mk (st := s_trimmed) l_trimmed h_trimmed k_trimmed
  have b_trimmed := F_trimmed.binds (ps := ["some"]) fun _ _ _ _ _ _ us hl => match us, hl with | [_], _ => rfl
  have D_trimmed : Def K mg "trimmed" s_trimmed ["some"] := ⟨_, _, fun_g F_trimmed, PySem.W.mg_of X G a_trimmed, b_trimmed⟩
  have F_degree_of := fun_mk (st := s_degree_of) l_degree_of h_degree_of k_degree_of
  have b_degree_of := F_degree_of.binds (ps := ["poly"]) fun _ _ _ _ _ _ us hl => match us, hl with | [_], _ => rfl
  have D_degree_of : Def K mg "degree_of" s_degree_of ["poly"] := ⟨_, _, fun_g F_degree_of, PySem.W.mg_of X G a_degree_of, b_degree_of⟩
  have F_term_text := fun_mk (st := s_term_text) l_term_text h_term_text k_term_text
  have b_term_text := F_term_text.binds (ps := ["one", "power", "first"]) fun _ _ _ _ _ _ us hl => match us, hl with | [_, _, _], _ => rfl
  have D_term_text : Def K mg "term_text" s_term_text ["one", "power", "first"] := ⟨_, _, fun_g F_term_text, PySem.W.mg_of X G a_term_text, b_term_text⟩
  have F_poly_text := fun_mk (st := s_poly_text) l_poly_text h_poly_text k_poly_text
  have b_poly_text := F_poly_text.binds (ps := ["poly"]) fun _ _ _ _ _ _ us hl => match us, hl with | [_], _ => rfl
  have D_poly_text : Def K mg "poly_text" s_poly_text ["poly"] := ⟨_, _, fun_g F_poly_text, PySem.W.mg_of X G a_poly_text, b_poly_text⟩
  have F_whole_from := fun_mk (st := s_whole_from) l_whole_from h_whole_from k_whole_from
  have b_whole_from := F_whole_from.binds (ps := ["word"]) fun _ _ _ _ _ _ us hl => match us, hl with | [_], _ => rfl
  have D_whole_from : Def K mg "whole_from" s_whole_from ["word"] := ⟨_, _, fun_g F_whole_from, PySem.W.mg_of X G a_whole_from, b_whole_from⟩
  have F_term_from := fun_mk (st := s_term_from) l_term_from h_term_from k_term_from
  have b_term_from := F_term_from.binds (ps := ["part"]) fun _ _ _ _ _ _ us hl => match us, hl with | [_], _ => rfl
  have D_term_from : Def K mg "term_from" s_term_from ["part"] := ⟨_, _, fun_g F_term_from, PySem.W.mg_of X G a_term_from, b_term_from⟩
  have F_poly_from := fun_mk (st := s_poly_from) l_poly_from h_poly_from k_poly_from
  have b_poly_from := F_poly_from.binds (ps := ["word"]) fun _ _ _ _ _ _ us hl => match us, hl with | [_], _ => rfl
  have D_poly_from : Def K mg "poly_from" s_poly_from ["word"] := ⟨_, _, fun_g F_poly_from, PySem.W.mg_of X G a_poly_from, b_poly_from⟩
  have F_read_poly := fun_mk (st := s_read_poly) l_read_poly h_read_poly k_read_poly
  have b_read_poly := F_read_poly.binds (ps := ["text"]) fun _ _ _ _ _ _ us hl => match us, hl with | [_], _ => rfl
  have D_read_poly : Def K mg "read_poly" s_read_poly ["text"] := ⟨_, _, fun_g F_read_poly, PySem.W.mg_of X G a_read_poly, b_read_poly⟩
  have F__law_well := fun_mk (st := s__law_well) l__law_well h__law_well k__law_well
  have b__law_well := F__law_well.binds (ps := ["cell", "turn"]) fun _ _ _ _ _ _ us hl => match us, hl with | [_, _], _ => rfl
  have D__law_well : Def K mg "_law_well" s__law_well ["cell", "turn"] := ⟨_, _, fun_g F__law_well, PySem.W.mg_of X G a__law_well, b__law_well⟩
  have F__law_take := fun_mk (st := s__law_take) l__law_take h__law_take k__law_take
  have b__law_take := F__law_take.binds (ps := ["bag", "many"]) fun _ _ _ _ _ _ us hl => match us, hl with | [_, _], _ => rfl
  have D__law_take : Def K mg "_law_take" s__law_take ["bag", "many"] := ⟨_, _, fun_g F__law_take, PySem.W.mg_of X G a__law_take, b__law_take⟩
  have F__law_bags := fun_mk (st := s__law_bags) l__law_bags h__law_bags k__law_bags
  have b__law_bags := F__law_bags.binds (ps := ["script", "most"]) fun _ _ _ _ _ _ us hl => match us, hl with | [_, _], _ => rfl
  have D__law_bags : Def K mg "_law_bags" s__law_bags ["script", "most"] := ⟨_, _, fun_g F__law_bags, PySem.W.mg_of X G a__law_bags, b__law_bags⟩
  have F__law_same := fun_mk (st := s__law_same) l__law_same h__law_same k__law_same
  have b__law_same := F__law_same.binds (ps := ["a", "b"]) fun _ _ _ _ _ _ us hl => match us, hl with | [_, _], _ => rfl
  have D__law_same : Def K mg "_law_same" s__law_same ["a", "b"] := ⟨_, _, fun_g F__law_same, PySem.W.mg_of X G a__law_same, b__law_same⟩
  have F__law_int := fun_mk (st := s__law_int) l__law_int h__law_int k__law_int
  have b__law_int := F__law_int.binds (ps := ["bag"]) fun _ _ _ _ _ _ us hl => match us, hl with | [_], _ => rfl
  have D__law_int : Def K mg "_law_int" s__law_int ["bag"] := ⟨_, _, fun_g F__law_int, PySem.W.mg_of X G a__law_int, b__law_int⟩
  have F__law_wide := fun_mk (st := s__law_wide) l__law_wide h__law_wide k__law_wide
  have b__law_wide := F__law_wide.binds (ps := ["bag"]) fun _ _ _ _ _ _ us hl => match us, hl with | [_], _ => rfl
  have D__law_wide : Def K mg "_law_wide" s__law_wide ["bag"] := ⟨_, _, fun_g F__law_wide, PySem.W.mg_of X G a__law_wide, b__law_wide⟩
  have F__law_trim := fun_mk (st := s__law_trim) l__law_trim h__law_trim k__law_trim
  have b__law_trim := F__law_trim.binds (ps := ["row"]) fun _ _ _ _ _ _ us hl => match us, hl with | [_], _ => rfl
  have D__law_trim : Def K mg "_law_trim" s__law_trim ["row"] := ⟨_, _, fun_g F__law_trim, PySem.W.mg_of X G a__law_trim, b__law_trim⟩
  have F__law_poly_text := fun_mk (st := s__law_poly_text) l__law_poly_text h__law_poly_text k__law_poly_text
  have b__law_poly_text := F__law_poly_text.binds (ps := ["f"]) fun _ _ _ _ _ _ us hl => match us, hl with | [_], _ => rfl
  have D__law_poly_text : Def K mg "_law_poly_text" s__law_poly_text ["f"] := ⟨_, _, fun_g F__law_poly_text, PySem.W.mg_of X G a__law_poly_text, b__law_poly_text⟩
  have F__law_ask := fun_mk (st := s__law_ask) l__law_ask h__law_ask k__law_ask
  have b__law_ask := F__law_ask.binds (ps := ["deed"]) fun _ _ _ _ _ _ us hl => match us, hl with | [_], _ => rfl
  have D__law_ask : Def K mg "_law_ask" s__law_ask ["deed"] := ⟨_, _, fun_g F__law_ask, PySem.W.mg_of X G a__law_ask, b__law_ask⟩
  have F__law_whole_of := fun_mk (st := s__law_whole_of) l__law_whole_of h__law_whole_of k__law_whole_of
  have b__law_whole_of := F__law_whole_of.binds (ps := ["word"]) fun _ _ _ _ _ _ us hl => match us, hl with | [_], _ => rfl
  have D__law_whole_of : Def K mg "_law_whole_of" s__law_whole_of ["word"] := ⟨_, _, fun_g F__law_whole_of, PySem.W.mg_of X G a__law_whole_of, b__law_whole_of⟩
  have F__law_one_part := fun_mk (st := s__law_one_part) l__law_one_part h__law_one_part k__law_one_part
  have b__law_one_part := F__law_one_part.binds (ps := ["part"]) fun _ _ _ _ _ _ us hl => match us, hl with | [_], _ => rfl
  have D__law_one_part : Def K mg "_law_one_part" s__law_one_part ["part"] := ⟨_, _, fun_g F__law_one_part, PySem.W.mg_of X G a__law_one_part, b__law_one_part⟩
  have F__law_poly_in := fun_mk (st := s__law_poly_in) l__law_poly_in h__law_poly_in k__law_poly_in
  have b__law_poly_in := F__law_poly_in.binds (ps := ["text"]) fun _ _ _ _ _ _ us hl => match us, hl with | [_], _ => rfl
  have D__law_poly_in : Def K mg "_law_poly_in" s__law_poly_in ["text"] := ⟨_, _, fun_g F__law_poly_in, PySem.W.mg_of X G a__law_poly_in, b__law_poly_in⟩
  have F__law_spoilt := fun_mk (st := s__law_spoilt) l__law_spoilt h__law_spoilt k__law_spoilt
  have b__law_spoilt := F__law_spoilt.binds (ps := ["bag", "text"]) fun _ _ _ _ _ _ us hl => match us, hl with | [_, _], _ => rfl
  have D__law_spoilt : Def K mg "_law_spoilt" s__law_spoilt ["bag", "text"] := ⟨_, _, fun_g F__law_spoilt, PySem.W.mg_of X G a__law_spoilt, b__law_spoilt⟩
  have m_MOST_FIGURES : ∃ t, mg "MOST_FIGURES" = some (.int 400 t) := ⟨_, PySem.W.mg_of X G g_MOST_FIGURES⟩
  have m_MOST_DEGREE : ∃ t, mg "MOST_DEGREE" = some (.int 12 t) := ⟨_, PySem.W.mg_of X G g_MOST_DEGREE⟩
  have X_NoText : Xcl K mg "NoText" a_NoText := ⟨PySem.W.mg_of X G xg_NoText, xk_NoText, xq_NoText, xs_NoText, xt_NoText⟩
  have X_RootError : Xcl K mg "RootError" a_RootError := ⟨PySem.W.mg_of X G xg_RootError, xk_RootError, xq_RootError, xs_RootError, xt_RootError⟩
  refine law_atT (c := ca_law) (Pt := P_law) (q := lawQ ++ ("<lambda>" : Str)) X l_law hd_law np_law ht_law (fun s v => .of_eq rfl) (fun base kb nb TB => ?_)
  have C_trimmed := c_trimmed (P := l.prog) (w := w) (base := base) (k := 0) D_trimmed B
  have C_degree_of := c_degree_of (P := l.prog) (w := w) (base := base) (k := 0) D_degree_of B
  have C_term_text := c_term_text (P := l.prog) (w := w) (base := base) (k := 0) D_term_text B
  have C_poly_text := c_poly_text (P := l.prog) (w := w) (base := base) (k := 1) D_poly_text B (C_degree_of.mono (by decide)) (C_term_text.mono (by decide))
  have C_whole_from := c_whole_from (P := l.prog) (w := w) (base := base) (k := 0) D_whole_from B m_MOST_FIGURES
  have C_term_from := c_term_from (P := l.prog) (w := w) (base := base) (k := 1) D_term_from m_MOST_DEGREE (C_whole_from.mono (by decide))
  have C_poly_from := c_poly_from (P := l.prog) (w := w) (base := base) (k := 2) D_poly_from m_MOST_DEGREE (C_term_from.mono (by decide)) (C_trimmed.mono (by decide)) (C_poly_text.mono (by decide))
  have C_read_poly := c_read_poly (cl := clOf [(.NoText, a_NoText), (.RootError, a_RootError)]) (P := l.prog) (w := w) (base := base) (k := 3) D_read_poly X_NoText (C_poly_from.mono (by decide))
  have C__law_well := c__law_well (P := l.prog) (w := w) (base := base) (k := 0) D__law_well
  have C__law_take := c__law_take (P := l.prog) (w := w) (base := base) (k := 0) D__law_take
  have C__law_bags := c__law_bags (P := l.prog) (w := w) (base := base) (k := 1) D__law_bags B (C__law_well.mono (by decide))
  have C__law_same := c__law_same (P := l.prog) (w := w) (base := base) (k := 0) D__law_same B 12
  have C__law_int := c__law_int (P := l.prog) (w := w) (base := base) (k := 1) D__law_int (C__law_take.mono (by decide))
  have C__law_wide := c__law_wide (P := l.prog) (w := w) (base := base) (k := 2) D__law_wide (C__law_take.mono (by decide)) (C__law_int.mono (by decide))
  have C__law_trim := c__law_trim (P := l.prog) (w := w) (base := base) (k := 0) D__law_trim B
  have C__law_poly_text := c__law_poly_text (P := l.prog) (w := w) (base := base) (k := 0) D__law_poly_text B
  have C__law_whole_of := c__law_whole_of (P := l.prog) (w := w) (base := base) (k := 0) D__law_whole_of B
  have C__law_one_part := c__law_one_part (P := l.prog) (w := w) (base := base) (k := 1) D__law_one_part (C__law_whole_of.mono (by decide))
  have C__law_poly_in := c__law_poly_in (P := l.prog) (w := w) (base := base) (k := 2) D__law_poly_in (C__law_one_part.mono (by decide)) (C__law_trim.mono (by decide)) (C__law_poly_text.mono (by decide))
  have C__law_spoilt := c__law_spoilt (P := l.prog) (w := w) (base := base) (k := 1) D__law_spoilt B (C__law_take.mono (by decide))
  exact c_law (cl := clOf [(.NoText, a_NoText), (.RootError, a_RootError)]) (P := l.prog) (w := w) (base := base) (k := 13) l_law h_law TB B (C__law_take.mono (by decide)) (C__law_int.mono (by decide)) (C__law_wide.mono (by decide)) (C__law_poly_text.mono (by decide)) (C__law_trim.mono (by decide)) (C__law_spoilt.mono (by decide)) (C__law_poly_in.mono (by decide)) (C_read_poly.mono (by decide)) (C__law_same.mono (by decide)) X_NoText X_RootError E_NoText_NoText D__law_ask (C__law_bags.mono (by decide))
end LW
open PySem PySem.W PyProof.Rows
set_option maxHeartbeats 0 in
theorem PySem.Challenge.cw_trueroots_k51_whole_polynomial_texts_spo_holds : PySem.Challenge.rw_trueroots_k51_whole_polynomial_texts_spo.Holds := by
  w_on; o_law; k_head; (case hw => w_witness2)
  k_fill
  refine LamX.walk_ofTs (l := PySem.Challenge.rw_trueroots_k51_whole_polynomial_texts_spo) (n := 63) (k := 16) (x := "script") (CX := fun w => L2.CX PySem.Challenge.rw_trueroots_k51_whole_polynomial_texts_spo.prog w) rfl (by decide) rfl ⟨rfl, by decide, by decide⟩ (fun w h Y => PySem.W.km_in_of Y) ?F (fun _ _ _ _ _ h => AM.cx_no h)
  case F =>
    intro w mg fa h Y KX G hmg
    refine' LW.all_mk KX G hmg ?a_trimmed ?l_trimmed ?h_trimmed ?k_trimmed ?a_degree_of ?l_degree_of ?h_degree_of ?k_degree_of ?a_term_text ?l_term_text ?h_term_text ?k_term_text ?a_poly_text ?l_poly_text ?h_poly_text ?k_poly_text ?a_whole_from ?l_whole_from ?h_whole_from ?k_whole_from ?a_term_from ?l_term_from ?h_term_from ?k_term_from ?a_poly_from ?l_poly_from ?h_poly_from ?k_poly_from ?a_read_poly ?l_read_poly ?h_read_poly ?k_read_poly ?a__law_well ?l__law_well ?h__law_well ?k__law_well ?a__law_take ?l__law_take ?h__law_take ?k__law_take ?a__law_bags ?l__law_bags ?h__law_bags ?k__law_bags ?a__law_same ?l__law_same ?h__law_same ?k__law_same ?a__law_int ?l__law_int ?h__law_int ?k__law_int ?a__law_wide ?l__law_wide ?h__law_wide ?k__law_wide ?a__law_trim ?l__law_trim ?h__law_trim ?k__law_trim ?a__law_poly_text ?l__law_poly_text ?h__law_poly_text ?k__law_poly_text ?a__law_ask ?l__law_ask ?h__law_ask ?k__law_ask ?a__law_whole_of ?l__law_whole_of ?h__law_whole_of ?k__law_whole_of ?a__law_one_part ?l__law_one_part ?h__law_one_part ?k__law_one_part ?a__law_poly_in ?l__law_poly_in ?h__law_poly_in ?k__law_poly_in ?a__law_spoilt ?l__law_spoilt ?h__law_spoilt ?k__law_spoilt ?a_law ?l_law ?h_law ?k_law ?kc_law ?c11_law ?hd_law ?np_law ?ht_law ?g_MOST_FIGURES ?g_MOST_DEGREE ?xg_NoText ?xk_NoText ?xq_NoText ?xs_NoText ?xt_NoText ?xg_RootError ?xk_RootError ?xq_RootError ?xs_RootError ?xt_RootError ?E_NoText_NoText ?z_isi ?z_int ?z_bool ?z_str ?z_list ?z_tuple ?z_len ?z_abs ?z_max ?z_min ?z_all ?z_any ?z_sum ?z_range ?z_enum ?z_zip ?z_sorted ?z_dict ?z_set
    (case a_trimmed => k_is)
    (case l_trimmed => k_is)
    (case h_trimmed => k_is)
    (case k_trimmed => k_is)
    (case a_degree_of => k_is)
    (case l_degree_of => k_is)
    (case h_degree_of => k_is)
    (case k_degree_of => k_is)
    (case a_term_text => k_is)
    (case l_term_text => k_is)
    (case h_term_text => k_is)
    (case k_term_text => k_is)
    (case a_poly_text => k_is)
    (case l_poly_text => k_is)
    (case h_poly_text => k_is)
    (case k_poly_text => k_is)
    (case a_whole_from => k_is)
    (case l_whole_from => k_is)
    (case h_whole_from => k_is)
    (case k_whole_from => k_is)
    (case a_term_from => k_is)
    (case l_term_from => k_is)
    (case h_term_from => k_is)
    (case k_term_from => k_is)
    (case a_poly_from => k_is)
    (case l_poly_from => k_is)
    (case h_poly_from => k_is)
    (case k_poly_from => k_is)
    (case a_read_poly => k_is)
    (case l_read_poly => k_is)
    (case h_read_poly => k_is)
    (case k_read_poly => k_is)
    (case a__law_well => k_is)
    (case l__law_well => k_is)
    (case h__law_well => k_is)
    (case k__law_well => k_is)
    (case a__law_take => k_is)
    (case l__law_take => k_is)
    (case h__law_take => k_is)
    (case k__law_take => k_is)
    (case a__law_bags => k_is)
    (case l__law_bags => k_is)
    (case h__law_bags => k_is)
    (case k__law_bags => k_is)
    (case a__law_same => k_is)
    (case l__law_same => k_is)
    (case h__law_same => k_is)
    (case k__law_same => k_is)
    (case a__law_int => k_is)
    (case l__law_int => k_is)
    (case h__law_int => k_is)
    (case k__law_int => k_is)
    (case a__law_wide => k_is)
    (case l__law_wide => k_is)
    (case h__law_wide => k_is)
    (case k__law_wide => k_is)
    (case a__law_trim => k_is)
    (case l__law_trim => k_is)
    (case h__law_trim => k_is)
    (case k__law_trim => k_is)
    (case a__law_poly_text => k_is)
    (case l__law_poly_text => k_is)
    (case h__law_poly_text => k_is)
    (case k__law_poly_text => k_is)
    (case a__law_ask => k_is)
    (case l__law_ask => k_is)
    (case h__law_ask => k_is)
    (case k__law_ask => k_is)
    (case a__law_whole_of => k_is)
    (case l__law_whole_of => k_is)
    (case h__law_whole_of => k_is)
    (case k__law_whole_of => k_is)
    (case a__law_one_part => k_is)
    (case l__law_one_part => k_is)
    (case h__law_one_part => k_is)
    (case k__law_one_part => k_is)
    (case a__law_poly_in => k_is)
    (case l__law_poly_in => k_is)
    (case h__law_poly_in => k_is)
    (case k__law_poly_in => k_is)
    (case a__law_spoilt => k_is)
    (case l__law_spoilt => k_is)
    (case h__law_spoilt => k_is)
    (case k__law_spoilt => k_is)
    (case a_law => k_is)
    (case l_law => k_is)
    (case h_law => k_is)
    (case k_law => k_is)
    (case kc_law => k_is)
    (case c11_law => rfl)
    (case hd_law => kernel_rfl)
    (case np_law => kernel_rfl)
    (case ht_law => exact PySem.W.km_tabs_of Y _ (by decide))
    (case g_MOST_FIGURES => k_is)
    (case g_MOST_DEGREE => k_is)
    (case xg_NoText => k_is)
    (case xk_NoText => k_is)
    (case xq_NoText => k_exc)
    (case xs_NoText => k_is)
    (case xt_NoText => k_is)
    (case xg_RootError => k_is)
    (case xk_RootError => k_is)
    (case xq_RootError => k_exc)
    (case xs_RootError => k_is)
    (case xt_RootError => k_is)
    (case E_NoText_NoText => kernel_rfl)
    (case z_isi => k_is)
    (case z_int => k_is)
    (case z_bool => k_is)
    (case z_str => k_is)
    (case z_list => k_is)
    (case z_tuple => k_is)
    (case z_len => k_is)
    (case z_abs => k_is)
    (case z_max => k_is)
    (case z_min => k_is)
    (case z_all => k_is)
    (case z_any => k_is)
    (case z_sum => k_is)
    (case z_range => k_is)
    (case z_enum => k_is)
    (case z_zip => k_is)
    (case z_sorted => k_is)
    (case z_dict => k_is)
    (case z_set => k_is)
