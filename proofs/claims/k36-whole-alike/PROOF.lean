import PyProof.Rows.All
import Wide.All
import OpenK.AllK
import Wide.FinOn
import HandS.ForMost
import HandS.Walk
import HandS.Lambda
import HandS.Zip
import HandS.TupAny
import HandS.TupMul
import HandS.Deep
import HandS.SortInts
import HandS.Conv
import HandS.Star
import HandS.Flt
import HandS.More
import HandS.SetFor
import KE.GoesEnum
import KE.GoesNew
import KE.KTupSum
import KE.KIndexOf
import HandS.Strs
import KE.SortKeyHeap
import PyProof.ReprRoads
import PyProof.Rows.ReprR
import PyProof.Rows.RegFStrParts
import PyProof.Rows.ReprShort
import KE.KSortKey
import HandS.EndTab
import KE.KNestM
import KE.KLam
import PySem.Challenge.RW_floorkeepers_k36_whole_alike_by_states
set_option Elab.async false
set_option linter.all false
section
set_option maxRecDepth 100000
set_option maxHeartbeats 0
/-! The head, apart and first (its memory is used again by what follows). -/
open PySem PySem.W PyProof.Rows
open_top FK.theHead for PySem.Challenge.rw_floorkeepers_k36_whole_alike_by_states
end
set_option maxRecDepth 100000
set_option maxHeartbeats 4000000
/-! FkA: the data level over the hand layer: data that stand still (G), lists that a def owns, the bag. -/
namespace FK
open PySem L2

abbrev D := PyData
/-- a tuple that stands at a, its object known and without a dict of its own -/
def TupAt (H : Hp) (a : Addr) (xs : List V) : Prop := ∃ o : Obj, o.dict = none ∧ H a = some (.frz o (.tup xs))
theorem TupAt.same {H H' : Hp} {a : Addr} {xs : List V} (h : TupAt H a xs) (e : Same H H') : TupAt H' a xs := by
  obtain ⟨o, d, q⟩ := h
  exact ⟨o, d, e _ _ q⟩
theorem TupAt.sq {K : PySem.W.Frag} {H : Hp} {a : Addr} {xs : List V} (h : TupAt H a xs) : SqT K H a xs := by
  obtain ⟨o, d, q⟩ := h
  exact .inl (.inr ⟨o, q⟩)
theorem TupAt.ne {H : Hp} {a : Addr} {xs : List V} (h : TupAt H a xs) : ∃ u, H a = some u := by
  obtain ⟨o, d, q⟩ := h
  exact ⟨_, q⟩

mutual
/-- v is the data d by what stands still in G -/
inductive Rp (G : Hp) : V → D → Prop
  | non : Rp G .non .none
  | bl (b : Bool) : Rp G (.bl b) (.bool b)
  | int (i : Int) : Rp G (.int i) (.int i)
  | str (x : Str) : Rp G (.str x) (.str x)
  | lst {a : Addr} {xs : List V} {ds : List D} : G a = some (.lst xs) → RpA G xs ds → Rp G (.ref a) (.list ds)
  | tup {a : Addr} {xs : List V} {ds : List D} : TupAt G a xs → RpA G xs ds → Rp G (.ref a) (.tuple ds)
inductive RpA (G : Hp) : List V → List D → Prop
  | nil : RpA G [] []
  | cons {v : V} {vs : List V} {d : D} {ds : List D} : Rp G v d → RpA G vs ds → RpA G (v :: vs) (d :: ds)
end

mutual
theorem Rp.mono {G G' : Hp} (e : Same G G') : ∀ (d : D) (v : V), Rp G v d → Rp G' v d
  | .none, _, h => by cases h; exact .non
  | .bool b, _, h => by cases h; exact .bl b
  | .int i, _, h => by cases h; exact .int i
  | .str x, _, h => by cases h; exact .str x
  | .list ds, _, h => by
    cases h with
    | lst ha hx => exact .lst (e _ _ ha) (RpA.mono e ds _ hx)
  | .tuple ds, _, h => by
    cases h with
    | tup ha hx => exact .tup (ha.same e) (RpA.mono e ds _ hx)
  | .dict _, _, h => by cases h
theorem RpA.mono {G G' : Hp} (e : Same G G') : ∀ (ds : List D) (vs : List V), RpA G vs ds → RpA G' vs ds
  | [], _, h => by cases h; exact .nil
  | d :: ds, _, h => by
    cases h with
    | cons h1 h2 => exact .cons (Rp.mono e d _ h1) (RpA.mono e ds _ h2)
end
mutual
/-- as the hand layer's data -/
theorem Rp.dp {K : PySem.W.Frag} {G : Hp} : ∀ (d : D) (v : V), Rp G v d → Dp K G v d
  | .none, _, h => by cases h; exact .non
  | .bool b, _, h => by cases h; exact .bl b
  | .int i, _, h => by cases h; exact .int i
  | .str x, _, h => by cases h; exact .str x
  | .list ds, _, h => by
    cases h with
    | lst ha hx => exact .lst (SqL.of ha) (RpA.dp ds _ hx)
  | .tuple ds, _, h => by
    cases h with
    | tup ha hx => exact .tup ha.sq (RpA.dp ds _ hx)
  | .dict _, _, h => by cases h
theorem RpA.dp {K : PySem.W.Frag} {G : Hp} : ∀ (ds : List D) (vs : List V), RpA G vs ds → DpAll K G vs ds
  | [], _, h => by cases h; exact .nil
  | d :: ds, _, h => by
    cases h with
    | cons h1 h2 => exact .cons (Rp.dp d _ h1) (RpA.dp ds _ h2)
end

section
variable {G G' : Hp} {v : V} {d : D} {vs ws : List V} {ds es : List D}
/-- hangs on no object -/
def sc : D → Bool
  | .none => true | .bool _ => true | .int _ => true | .str _ => true | _ => false
theorem Rp.scal (h : Rp G v d) (s : sc d = true) : Rp G' v d := by
  cases h with
  | non => exact .non
  | bl b => exact .bl b
  | int i => exact .int i
  | str x => exact .str x
  | lst _ _ => cases s
  | tup _ _ => cases s
theorem RpA.scal : ∀ {vs : List V} {ds : List D}, RpA G vs ds → (∀ d ∈ ds, sc d = true) → RpA G' vs ds
  | _, _, .nil, _ => .nil
  | _, _, .cons h t, s => .cons (h.scal (s _ (.head _))) (RpA.scal t fun d hd => s d (.tail _ hd))
theorem RpA.length : ∀ {vs : List V} {ds : List D}, RpA G vs ds → vs.length = ds.length
  | _, _, .nil => rfl
  | _, _, .cons _ t => congrArg (· + 1) (RpA.length t)
theorem RpA.get : ∀ {vs : List V} {ds : List D} {i : Nat} {d : D}, RpA G vs ds → ds[i]? = some d → ∃ v, vs[i]? = some v ∧ Rp G v d
  | _, _, _, _, .nil, e => by simp at e
  | _, _, 0, _, .cons r _, e => by simp at e; subst e; exact ⟨_, rfl, r⟩
  | _, _, i + 1, d, .cons _ t, e => by
    obtain ⟨u, h1, h2⟩ := RpA.get (i := i) (d := d) t (by simpa using e)
    exact ⟨u, by simpa using h1, h2⟩
theorem RpA.getV : ∀ {vs : List V} {ds : List D} {i : Nat} {v : V}, RpA G vs ds → vs[i]? = some v → ∃ d, ds[i]? = some d ∧ Rp G v d
  | _, _, _, _, .nil, e => by simp at e
  | _, _, 0, _, .cons r _, e => by simp at e; subst e; exact ⟨_, rfl, r⟩
  | _, _, i + 1, v, .cons _ t, e => by
    obtain ⟨u, h1, h2⟩ := RpA.getV (i := i) (v := v) t (by simpa using e)
    exact ⟨u, by simpa using h1, h2⟩
theorem RpA.append : ∀ {vs ws : List V} {ds es : List D}, RpA G vs ds → RpA G ws es → RpA G (vs ++ ws) (ds ++ es)
  | _, _, _, _, .nil, s => s
  | _, _, _, _, .cons r t, s => .cons r (RpA.append t s)
theorem RpA.take : ∀ {vs : List V} {ds : List D} (n : Nat), RpA G vs ds → RpA G (vs.take n) (ds.take n)
  | _, _, 0, _ => .nil
  | _, _, _ + 1, .nil => .nil
  | _, _, n + 1, .cons r t => .cons r (RpA.take n t)
theorem RpA.drop : ∀ {vs : List V} {ds : List D} (n : Nat), RpA G vs ds → RpA G (vs.drop n) (ds.drop n)
  | _, _, 0, r => r
  | _, _, _ + 1, .nil => .nil
  | _, _, n + 1, .cons _ t => RpA.drop n t
theorem RpA.set {x : V} {y : D} (r : Rp G x y) : ∀ {vs : List V} {ds : List D} (i : Nat), RpA G vs ds → RpA G (vs.set i x) (ds.set i y)
  | _, _, _, .nil => .nil
  | _, _, 0, .cons _ t => .cons r t
  | _, _, i + 1, .cons q t => .cons q (RpA.set r i t)
theorem RpA.ints : ∀ (ns : List Int), RpA G (ns.map V.int) (ns.map PyData.int)
  | [] => .nil
  | n :: ns => .cons (.int n) (RpA.ints ns)
theorem RpA.of_ints : ∀ {vs : List V} {ns : List Int}, RpA G vs (ns.map PyData.int) → vs = ns.map V.int
  | _, [], h => by cases h; rfl
  | _, n :: ns, h => by
    cases h with
    | cons h1 h2 =>
      cases h1
      rw [RpA.of_ints h2]
      rfl
theorem RpA.of_bools : ∀ {vs : List V} {ns : List Bool}, RpA G vs (ns.map PyData.bool) → vs = ns.map V.bl
  | _, [], h => by cases h; rfl
  | _, n :: ns, h => by
    cases h with
    | cons h1 h2 =>
      cases h1
      rw [RpA.of_bools h2]
      rfl
theorem RpA.rep {x : V} {y : D} (r : Rp G x y) : ∀ (n : Nat), RpA G (List.replicate n x) (List.replicate n y)
  | 0 => .nil
  | n + 1 => .cons r (RpA.rep r n)
theorem RpA.flat {vs : List V} {ds : List D} (r : RpA G vs ds) : ∀ (n : Nat), RpA G (List.replicate n vs).flatten (List.replicate n ds).flatten
  | 0 => .nil
  | n + 1 => by
    rw [List.replicate_succ, List.replicate_succ, List.flatten_cons, List.flatten_cons]
    exact r.append (RpA.flat r n)
theorem Rp.int_inv {i : Int} (h : Rp G v (.int i)) : v = .int i := by cases h; rfl
theorem Rp.bl_inv {b : Bool} (h : Rp G v (.bool b)) : v = .bl b := by cases h; rfl
theorem Rp.str_inv {x : Str} (h : Rp G v (.str x)) : v = .str x := by cases h; rfl
theorem Rp.non_inv (h : Rp G v .none) : v = .non := by cases h; rfl
theorem Rp.lst_inv (h : Rp G v (.list ds)) : ∃ a xs, v = .ref a ∧ G a = some (.lst xs) ∧ RpA G xs ds := by
  cases h with
  | lst ha hx => exact ⟨_, _, rfl, ha, hx⟩
theorem Rp.tup_inv (h : Rp G v (.tuple ds)) : ∃ a xs, v = .ref a ∧ TupAt G a xs ∧ RpA G xs ds := by
  cases h with
  | tup ha hx => exact ⟨_, _, rfl, ha, hx⟩
end

/-! ### what may change behind the data's back: the bag, a code object's table -/
structure Bg where
  bag : Option (Addr × Addr) := none
  tab : Option (Addr × Str) := none
def NotB (B : Bg) (a : Addr) : Prop := (∀ p, B.bag = some p → a ≠ p.1) ∧ (∀ p, B.tab = some p → a ≠ p.1)
def BagH (b c : Addr) (H : Hp) : Prop := ∃ (x y z : Int) (ns : List Int), H b = some (.lst [.int x, .int y, .int z, .ref c]) ∧ H c = some (.lst (ns.map V.int)) ∧ 0 ≤ x ∧ 0 ≤ y ∧ y < 2147483647 ∧ 0 ≤ z ∧ (∀ n ∈ ns, 0 ≤ n) ∧ ns.length ≤ 100
structure Ok (B : Bg) (G H : Hp) : Prop where
  gh : Same G H
  bag : ∀ b c, B.bag = some (b, c) → G b = none ∧ G c ≠ none ∧ BagH b c H
  tab : ∀ P q, B.tab = some (P, q) → G P = none ∧ LamX.TabS H P q
structure Stp (B : Bg) (G H G' H' : Hp) : Prop where
  gg : Same G G'
  hh : ∀ a o, NotB B a → H a = some o → H' a = some o
  fr : ∀ a, H a ≠ none → G a = none → G' a = none
  th : ∀ a, H a ≠ none → H' a ≠ none
section
variable {B B' : Bg} {G H G1 H1 G2 H2 : Hp}
theorem Stp.refl (B : Bg) (G H : Hp) : Stp B G H G H := ⟨Same.refl G, fun _ _ _ h => h, fun _ _ h => h, fun _ h => h⟩
theorem Stp.trans (a : Stp B G H G1 H1) (b : Stp B G1 H1 G2 H2) : Stp B G H G2 H2 :=
  ⟨a.gg.trans b.gg, fun x o n h => b.hh x o n (a.hh x o n h), fun x h g => b.fr x (a.th x h) (a.fr x h g), fun x h => b.th x (a.th x h)⟩
theorem some_of {o : Option HO} (h : o ≠ none) : ∃ u, o = some u := by
  cases o with
  | none => exact absurd rfl h
  | some u => exact ⟨u, rfl⟩
theorem ne_none {o : Option HO} {u : HO} (h : o = some u) : o ≠ none := by rw [h]; exact fun z => nomatch z
theorem BagH.same {b c : Addr} (h : BagH b c H) (e : Same H H1) : BagH b c H1 := by
  obtain ⟨x, y, z, ns, h1, h2, h3⟩ := h
  exact ⟨x, y, z, ns, e _ _ h1, e _ _ h2, h3⟩
/-- a step that leaves all that is tracked -/
theorem Stp.pure (e : Same H H1) (g : Same G G1) (fr : ∀ a, H a ≠ none → G a = none → G1 a = none) : Stp B G H G1 H1 :=
  ⟨g, fun a o _ h => e a o h, fr, fun a h => by obtain ⟨u, q⟩ := some_of h; exact ne_none (e _ _ q)⟩
theorem notB0 (a : Addr) : NotB {} a := ⟨(fun _ h => nomatch h), (fun _ h => nomatch h)⟩
/-- a pure callee's step -/
theorem Stp.up (s : Stp {} G H G1 H1) : Stp B G H G1 H1 := Stp.pure (fun a o h => s.hh a o (notB0 a) h) s.gg s.fr
theorem Ok.up (k : Ok B G H) (s : Stp {} G H G1 H1) (o : Ok {} G1 H1) : Ok B G1 H1 := by
  have e : Same H H1 := fun a o h => s.hh a o (notB0 a) h
  refine ⟨o.gh, fun b c hb => ?_, fun P q hp => ?_⟩
  · obtain ⟨k1, k2, k3⟩ := k.bag b c hb
    obtain ⟨x, y, z, ns, h1, _⟩ := id k3
    obtain ⟨u, hu⟩ := some_of k2
    exact ⟨s.fr b (ne_none h1) k1, ne_none (s.gg _ _ hu), k3.same e⟩
  · obtain ⟨k1, k2⟩ := k.tab P q hp
    obtain ⟨ps, h1, _⟩ := id k2
    exact ⟨s.fr P (ne_none h1) k1, k2.ext e⟩
theorem Ok.down (k : Ok B G H) : Ok {} G H := ⟨k.gh, (fun _ _ h => nomatch h), (fun _ _ h => nomatch h)⟩
theorem Ok.same (k : Ok B G H) (e : Same H H1) : Ok B G H1 := by
  refine ⟨k.gh.trans e, fun b c hb => ?_, fun P q hp => ?_⟩
  · obtain ⟨k1, k2, k3⟩ := k.bag b c hb
    exact ⟨k1, k2, k3.same e⟩
  · obtain ⟨k1, k2⟩ := k.tab P q hp
    exact ⟨k1, k2.ext e⟩
theorem same_upd {p : Addr} {o : HO} (h : H p = none) : Same H (upd H p o) := fun a u e => by rw [upd_ne (ne_of_none e h)]; exact e
theorem Ok.notB (k : Ok B G H) {p : Addr} (h : H p = none) : NotB B p := by
  refine ⟨fun q e z => ?_, fun q e z => ?_⟩
  · obtain ⟨x, y, w, ns, h1, _⟩ := (k.bag q.1 q.2 e).2.2
    rw [← z, h] at h1
    cases h1
  · obtain ⟨ps, h1, _⟩ := (k.tab q.1 q.2 e).2
    rw [← z, h] at h1
    cases h1
theorem Ok.free (k : Ok B G H) {p : Addr} (h : H p = none) : G p = none := by
  cases e : G p with
  | none => rfl
  | some o => rw [k.gh _ _ e] at h; cases h
/-- a new object that stands still -/
theorem Stp.new (k : Ok B G H) {p : Addr} (o : HO) (h : H p = none) : Stp B G H (upd G p o) (upd H p o) ∧ Ok B (upd G p o) (upd H p o) := by
  have hg := k.free h
  have nb : ∀ a, H a ≠ none → a ≠ p := fun a q z => q (z ▸ h)
  refine ⟨Stp.pure (same_upd h) (same_upd hg) fun a q g => by rw [upd_ne (nb a q)]; exact g, ⟨fun a u e => ?_, fun b c hb => ?_, fun P q hp => ?_⟩⟩
  · by_cases z : a = p
    · subst z; rw [upd_same] at e ⊢; exact e
    · rw [upd_ne z] at e ⊢; exact k.gh _ _ e
  · obtain ⟨k1, k2, k3⟩ := k.bag b c hb
    obtain ⟨x, y, w, ns, h1, _⟩ := id k3
    obtain ⟨u, hu⟩ := some_of k2
    refine ⟨by rw [upd_ne (nb b (ne_none h1))]; exact k1, ?_, k3.same (same_upd h)⟩
    rw [upd_ne (nb c (ne_none (k.gh _ _ hu)))]
    exact k2
  · obtain ⟨k1, k2⟩ := k.tab P q hp
    obtain ⟨ps, h1, _⟩ := id k2
    exact ⟨by rw [upd_ne (nb P (ne_none h1))]; exact k1, k2.ext (same_upd h)⟩
/-- a new object that does not stand still yet -/
theorem Stp.newH (k : Ok B G H) {p : Addr} (o : HO) (h : H p = none) : Stp B G H G (upd H p o) ∧ Ok B G (upd H p o) :=
  ⟨Stp.pure (same_upd h) (Same.refl G) fun _ _ g => g, k.same (same_upd h)⟩
end

/-! ### slots -/
/-- what a slot holds: nothing known, data that stand still, a list of the def's own, the bag -/
inductive SD where
  | no | dat (d : D) | own (ds : List D) | bag
structure Mx where
  B : Bg
  G0 : Hp
  H0 : Hp
def SlotR (M : Mx) (G H : Hp) (o : Option (Option V)) : SD → Prop
  | .no => True
  | .dat d => ∃ v, o = some (some v) ∧ Rp G v d
  | .own ds => ∃ l vs, o = some (some (.ref l)) ∧ H l = some (.lst vs) ∧ G l = none ∧ M.H0 l = none ∧ NotB M.B l ∧ RpA G vs ds
  | .bag => ∃ b c, M.B.bag = some (b, c) ∧ o = some (some (.ref b))
structure SR (M : Mx) (G H : Hp) (σ : St) (δ : List SD) : Prop where
  ok : Ok M.B G H
  st : Stp M.B M.G0 M.H0 G H
  len : σ.length = δ.length
  sl : ∀ (i : Nat) (sd : SD), δ[i]? = some sd → SlotR M G H σ[i]? sd
  ds : ∀ (i j : Nat) (l : Addr) (xs ys : List D), δ[i]? = some (.own xs) → δ[j]? = some (.own ys) → σ[i]? = some (some (.ref l)) → σ[j]? = some (some (.ref l)) → i = j
section
variable {M : Mx} {G H G' H' : Hp} {σ : St} {δ : List SD}
theorem SR.step (s : SR M G H σ δ) (t : Stp M.B G H G' H') (k : Ok M.B G' H') : SR M G' H' σ δ := by
  refine ⟨k, s.st.trans t, s.len, fun i sd h => ?_, s.ds⟩
  have q := s.sl i sd h
  cases sd with
  | no => trivial
  | dat d =>
    obtain ⟨v, e, r⟩ := q
    exact ⟨v, e, r.mono t.gg⟩
  | own xs =>
    obtain ⟨l, vs, e, h1, h2, h3, h4, r⟩ := q
    exact ⟨l, vs, e, t.hh _ _ h4 h1, t.fr _ (ne_none h1) h2, h3, h4, RpA.mono t.gg _ _ r⟩
  | bag => exact q
theorem SR.lt (s : SR M G H σ δ) {i : Nat} {sd : SD} (h : δ[i]? = some sd) : i < σ.length := by
  rw [s.len]; exact (List.getElem?_eq_some_iff.mp h).1
/-- a slot given data -/
theorem SR.setDat (s : SR M G H σ δ) (i : Nat) {v : V} {d : D} (r : Rp G v d) : SR M G H (σ.set i (some v)) (δ.set i (.dat d)) := by
  refine ⟨s.ok, s.st, by rw [List.length_set, List.length_set]; exact s.len, fun j sd h => ?_, fun a b l xs ys h1 h2 h3 h4 => ?_⟩
  · by_cases e : i = j
    · subst e
      by_cases hi : i < δ.length
      · rw [List.getElem?_set_self hi] at h
        cases h
        rw [List.getElem?_set_self (by rw [s.len]; exact hi)]
        exact ⟨v, rfl, r⟩
      · rw [List.getElem?_eq_none (by rw [List.length_set]; omega)] at h
        cases h
    · rw [List.getElem?_set_ne e] at h ⊢
      exact s.sl j sd h
  · have n1 : i ≠ a := fun e => by
      subst e
      by_cases hi : i < δ.length
      · rw [List.getElem?_set_self hi] at h1; cases h1
      · rw [List.getElem?_eq_none (by rw [List.length_set]; omega)] at h1; cases h1
    have n2 : i ≠ b := fun e => by
      subst e
      by_cases hi : i < δ.length
      · rw [List.getElem?_set_self hi] at h2; cases h2
      · rw [List.getElem?_eq_none (by rw [List.length_set]; omega)] at h2; cases h2
    rw [List.getElem?_set_ne n1] at h1 h3
    rw [List.getElem?_set_ne n2] at h2 h4
    exact s.ds a b l xs ys h1 h2 h3 h4
/-- a slot forgotten -/
theorem SR.forget (s : SR M G H σ δ) (i : Nat) (o : Option V) : SR M G H (σ.set i o) (δ.set i .no) := by
  refine ⟨s.ok, s.st, by rw [List.length_set, List.length_set]; exact s.len, fun j sd h => ?_, fun a b l xs ys h1 h2 h3 h4 => ?_⟩
  · by_cases e : i = j
    · subst e
      by_cases hi : i < δ.length
      · rw [List.getElem?_set_self hi] at h
        cases h
        trivial
      · rw [List.getElem?_eq_none (by rw [List.length_set]; omega)] at h
        cases h
    · rw [List.getElem?_set_ne e] at h ⊢
      exact s.sl j sd h
  · have n1 : i ≠ a := fun e => by
      subst e
      by_cases hi : i < δ.length
      · rw [List.getElem?_set_self hi] at h1; cases h1
      · rw [List.getElem?_eq_none (by rw [List.length_set]; omega)] at h1; cases h1
    have n2 : i ≠ b := fun e => by
      subst e
      by_cases hi : i < δ.length
      · rw [List.getElem?_set_self hi] at h2; cases h2
      · rw [List.getElem?_eq_none (by rw [List.length_set]; omega)] at h2; cases h2
    rw [List.getElem?_set_ne n1] at h1 h3
    rw [List.getElem?_set_ne n2] at h2 h4
    exact s.ds a b l xs ys h1 h2 h3 h4
/-- the list of an owned slot, written -/
theorem SR.write (s : SR M G H σ δ) {i : Nat} {l : Addr} {xs es : List D} {ws : List V} (hi : δ[i]? = some (.own xs)) (hl : σ[i]? = some (some (.ref l))) (r : RpA G ws es) :
    SR M G (upd H l (.lst ws)) σ (δ.set i (.own es)) := by
  obtain ⟨l', vs, e, h1, h2, h3, h4, _⟩ := s.sl i _ hi
  rw [hl] at e
  cases e
  have nG : ∀ a u, G a = some u → a ≠ l := fun a u e z => by rw [z, h2] at e; cases e
  refine ⟨⟨fun a u e => by rw [upd_ne (nG a u e)]; exact s.ok.gh a u e, fun b c hb => ?_, fun P q hp => ?_⟩, ⟨s.st.gg, fun a u n e => ?_, s.st.fr, fun a e => ?_⟩, by rw [List.length_set]; exact s.len, fun j sd h => ?_, fun a b m zs ys g1 g2 g3 g4 => ?_⟩
  · obtain ⟨k1, k2, k3⟩ := s.ok.bag b c hb
    obtain ⟨x, y, w, ns, q1, q2, q3⟩ := k3
    obtain ⟨u, hu⟩ := some_of k2
    exact ⟨k1, k2, x, y, w, ns, by rw [upd_ne (h4.1 (b, c) hb).symm]; exact q1, by rw [upd_ne (nG c u hu)]; exact q2, q3⟩
  · obtain ⟨k1, ps, q1, q2, q3⟩ := s.ok.tab P q hp
    refine ⟨k1, ps, by rw [upd_ne (h4.2 (P, q) hp).symm]; exact q1, q2, fun pos cv hc => ?_⟩
    obtain ⟨c, e1, e2⟩ := q3 pos cv hc
    exact ⟨c, e1, by rw [upd_ne (ne_of e2 h1 (fun z => nomatch z))]; exact e2⟩
  · rw [upd_ne (ne_of_none e h3)]
    exact s.st.hh a u n e
  · by_cases z : a = l
    · rw [z, upd_same]; exact fun z => nomatch z
    · rw [upd_ne z]; exact s.st.th a e
  · by_cases e : i = j
    · subst e
      rw [List.getElem?_set_self (List.getElem?_eq_some_iff.mp hi).1] at h
      cases h
      exact ⟨l, ws, hl, upd_same, h2, h3, h4, r⟩
    · rw [List.getElem?_set_ne e] at h
      have q := s.sl j sd h
      cases sd with
      | no => trivial
      | dat d => exact q
      | own zs =>
        obtain ⟨m, us, e1, g1, g2, g3, g4, rr⟩ := q
        refine ⟨m, us, e1, ?_, g2, g3, g4, rr⟩
        rw [upd_ne]
        · exact g1
        · intro z
          subst z
          exact e (s.ds i j m _ _ hi h hl e1)
      | bag => exact q
  · have own_of : ∀ (c : Nat) (ys : List D), (δ.set i (.own es))[c]? = some (.own ys) → ∃ ys', δ[c]? = some (.own ys') := fun (c : Nat) (ys : List D) q => by
      by_cases e : i = c
      · subst e; exact ⟨_, hi⟩
      · rw [List.getElem?_set_ne e] at q; exact ⟨_, q⟩
    obtain ⟨_, g1'⟩ := own_of _ _ g1
    obtain ⟨_, g2'⟩ := own_of _ _ g2
    exact s.ds a b m _ _ g1' g2' g3 g4
/-- a slot given a new list of the def's own -/
theorem SR.setOwn (s : SR M G H σ δ) (i : Nat) {l : Addr} {vs : List V} {es : List D} (h1 : H l = some (.lst vs)) (h2 : G l = none) (h3 : M.H0 l = none) (h4 : NotB M.B l) (r : RpA G vs es)
    (nw : ∀ (j : Nat) (ys : List D), δ[j]? = some (.own ys) → σ[j]? ≠ some (some (.ref l))) : SR M G H (σ.set i (some (.ref l))) (δ.set i (.own es)) := by
  refine ⟨s.ok, s.st, by rw [List.length_set, List.length_set]; exact s.len, fun j sd h => ?_, fun a b m xs ys g1 g2 g3 g4 => ?_⟩
  · by_cases e : i = j
    · subst e
      by_cases hi : i < δ.length
      · rw [List.getElem?_set_self hi] at h
        cases h
        rw [List.getElem?_set_self (by rw [s.len]; exact hi)]
        exact ⟨l, vs, rfl, h1, h2, h3, h4, r⟩
      · rw [List.getElem?_eq_none (by rw [List.length_set]; omega)] at h
        cases h
    · rw [List.getElem?_set_ne e] at h ⊢
      exact s.sl j sd h
  · by_cases e1 : i = a
    · by_cases e2 : i = b
      · rw [← e1, ← e2]
      · subst e1
        rw [List.getElem?_set_ne e2] at g2 g4
        by_cases hi : i < σ.length
        · rw [List.getElem?_set_self hi] at g3
          cases g3
          exact absurd g4 (nw b ys g2)
        · rw [List.getElem?_eq_none (by rw [List.length_set]; omega)] at g3
          cases g3
    · rw [List.getElem?_set_ne e1] at g1 g3
      by_cases e2 : i = b
      · subst e2
        by_cases hi : i < σ.length
        · rw [List.getElem?_set_self hi] at g4
          cases g4
          exact absurd g3 (nw a xs g1)
        · rw [List.getElem?_eq_none (by rw [List.length_set]; omega)] at g4
          cases g4
      · rw [List.getElem?_set_ne e2] at g2 g4
        exact s.ds a b m xs ys g1 g2 g3 g4
/-- an owned list stands still from now on -/
theorem SR.freeze (s : SR M G H σ δ) {i : Nat} {xs : List D} (hi : δ[i]? = some (.own xs)) : ∃ G', Same G G' ∧ SR M G' H σ (δ.set i (.dat (.list xs))) := by
  obtain ⟨l, vs, e, h1, h2, h3, h4, r⟩ := s.sl i _ hi
  refine ⟨upd G l (.lst vs), same_upd h2, ⟨⟨fun a u q => ?_, fun b c hb => ?_, fun P q hp => ?_⟩, ⟨s.st.gg.trans (same_upd h2), s.st.hh, fun a q g => ?_, s.st.th⟩, by rw [List.length_set]; exact s.len, fun j sd h => ?_, fun a b m zs ys g1 g2 g3 g4 => ?_⟩⟩
  · by_cases z : a = l
    · subst z; rw [upd_same] at q; cases q; exact h1
    · rw [upd_ne z] at q; exact s.ok.gh a u q
  · obtain ⟨k1, k2, k3⟩ := s.ok.bag b c hb
    obtain ⟨u, hu⟩ := some_of k2
    exact ⟨by rw [upd_ne (h4.1 (b, c) hb).symm]; exact k1, ne_none (same_upd h2 _ _ hu), k3⟩
  · obtain ⟨k1, k2⟩ := s.ok.tab P q hp
    exact ⟨by rw [upd_ne (h4.2 (P, q) hp).symm]; exact k1, k2⟩
  · have z : a ≠ l := fun z => q (z ▸ h3)
    rw [upd_ne z]
    exact s.st.fr a q g
  · by_cases e' : i = j
    · subst e'
      rw [List.getElem?_set_self (List.getElem?_eq_some_iff.mp hi).1] at h
      cases h
      exact ⟨.ref l, e, .lst upd_same (RpA.mono (same_upd h2) _ _ r)⟩
    · rw [List.getElem?_set_ne e'] at h
      have q := s.sl j sd h
      cases sd with
      | no => trivial
      | dat d =>
        obtain ⟨v, q1, q2⟩ := q
        exact ⟨v, q1, q2.mono (same_upd h2)⟩
      | own zs =>
        obtain ⟨m, us, e1, g1, g2, g3, g4, rr⟩ := q
        refine ⟨m, us, e1, g1, ?_, g3, g4, RpA.mono (same_upd h2) _ _ rr⟩
        rw [upd_ne]
        · exact g2
        · intro z
          subst z
          exact e' (s.ds i j m _ _ hi h e e1)
      | bag => exact q
  · have own_of : ∀ (c : Nat) (ys : List D), (δ.set i (.dat (.list xs)))[c]? = some (.own ys) → δ[c]? = some (.own ys) := fun (c : Nat) (ys : List D) q => by
      by_cases e' : i = c
      · subst e'; rw [List.getElem?_set_self (List.getElem?_eq_some_iff.mp hi).1] at q; cases q
      · rw [List.getElem?_set_ne e'] at q; exact q
    exact s.ds a b m _ _ (own_of _ _ g1) (own_of _ _ g2) g3 g4
/-- all owned lists as data (for one expression whose value hangs on no object) -/
def frz : List SD → List SD
  | [] => []
  | .own ds :: r => .dat (.list ds) :: frz r
  | .no :: r => .no :: frz r
  | .dat d :: r => .dat d :: frz r
  | .bag :: r => .bag :: frz r
theorem frz_get : ∀ (δ : List SD) (i : Nat), (frz δ)[i]? = (δ[i]?).map fun x => match x with | .own ds => SD.dat (.list ds) | y => y
  | [], i => by simp [frz]
  | .own ds :: r, 0 => by simp [frz]
  | .no :: r, 0 => by simp [frz]
  | .dat d :: r, 0 => by simp [frz]
  | .bag :: r, 0 => by simp [frz]
  | .own ds :: r, i + 1 => by simpa [frz] using frz_get r i
  | .no :: r, i + 1 => by simpa [frz] using frz_get r i
  | .dat d :: r, i + 1 => by simpa [frz] using frz_get r i
  | .bag :: r, i + 1 => by simpa [frz] using frz_get r i
theorem frz_len : ∀ (δ : List SD), (frz δ).length = δ.length
  | [] => rfl
  | .own ds :: r => congrArg (· + 1) (frz_len r)
  | .no :: r => congrArg (· + 1) (frz_len r)
  | .dat d :: r => congrArg (· + 1) (frz_len r)
  | .bag :: r => congrArg (· + 1) (frz_len r)
open Classical in
theorem SR.frz (s : SR M G H σ δ) : ∃ G', Same G G' ∧ SR M G' H σ (FK.frz δ) ∧ (∀ a, G' a ≠ none → H a ≠ none) := by
  have hG : ∀ a u, G a = some u → ¬ ∃ (i : Nat) (ds : List D), δ[i]? = some (SD.own ds) ∧ σ[i]? = some (some (V.ref a)) := fun a u e ⟨i, ds, h1, h2⟩ => by
    obtain ⟨l, vs, e1, _, g2, _⟩ := s.sl i _ h1
    rw [h2] at e1; cases e1
    rw [e] at g2; cases g2
  let G' : Hp := fun a => if ∃ (i : Nat) (ds : List D), δ[i]? = some (SD.own ds) ∧ σ[i]? = some (some (V.ref a)) then H a else G a
  have e1 : Same G G' := fun a u e => by
    show (if _ then _ else _) = _
    rw [if_neg (hG a u e)]; exact e
  have e2 : Same G' H := fun a u e => by
    have e : (if ∃ (i : Nat) (ds : List D), δ[i]? = some (SD.own ds) ∧ σ[i]? = some (some (V.ref a)) then H a else G a) = some u := e
    split at e
    · exact e
    · exact s.ok.gh a u e
  have nb : ∀ a, ¬ NotB M.B a → G a = none → G' a = none := fun a n g => by
    show (if _ then _ else _) = _
    rw [if_neg]
    · exact g
    · rintro ⟨i, ds, h1, h2⟩
      obtain ⟨l, vs, e1, _, _, _, g4, _⟩ := s.sl i _ h1
      rw [h2] at e1; cases e1
      exact n g4
  refine ⟨G', e1, ⟨⟨e2, fun b c hb => ?_, fun P q hp => ?_⟩, ⟨s.st.gg.trans e1, s.st.hh, fun a q g => ?_, s.st.th⟩, by rw [frz_len]; exact s.len, fun j sd h => ?_, fun a b m zs ys g1 g2 g3 g4 => ?_⟩, fun a q => ?_⟩
  · obtain ⟨k1, k2, k3⟩ := s.ok.bag b c hb
    obtain ⟨u, hu⟩ := some_of k2
    exact ⟨nb b (fun n => n.1 (b, c) hb rfl) k1, ne_none (e1 _ _ hu), k3⟩
  · obtain ⟨k1, k2⟩ := s.ok.tab P q hp
    exact ⟨nb P (fun n => n.2 (P, q) hp rfl) k1, k2⟩
  · show (if _ then _ else _) = _
    rw [if_neg]
    · exact s.st.fr a q g
    · rintro ⟨i, ds, h1, h2⟩
      obtain ⟨l, vs, e1, _, _, g3, _, _⟩ := s.sl i _ h1
      rw [h2] at e1; cases e1
      exact q g3
  · rw [frz_get] at h
    cases hj : δ[j]? with
    | none => rw [hj] at h; cases h
    | some x =>
      rw [hj] at h
      have q := s.sl j x hj
      cases x with
      | no => cases h; trivial
      | dat d =>
        cases h
        obtain ⟨v, q1, q2⟩ := q
        exact ⟨v, q1, q2.mono e1⟩
      | own zs =>
        cases h
        obtain ⟨m, us, h1, g1, g2, g3, g4, rr⟩ := q
        refine ⟨.ref m, h1, .lst ?_ (RpA.mono e1 _ _ rr)⟩
        show (if _ then _ else _) = _
        rw [if_pos ⟨j, zs, hj, h1⟩]
        exact g1
      | bag => cases h; exact q
  · have no : ∀ (c : Nat) (ys : List D), (FK.frz δ)[c]? ≠ some (SD.own ys) := fun (c : Nat) (ys : List D) q => by
      rw [frz_get] at q
      cases hj : δ[c]? with
      | none => rw [hj] at q; cases q
      | some x => rw [hj] at q; cases x <;> cases q
    exact absurd g1 (no _ _)
  · obtain ⟨u, hu⟩ := some_of q
    exact ne_none (e2 _ _ hu)
end
end FK

/-! FkB: the judgements of the data level and their rules. -/
namespace FK
open PySem L2

section
variable {M : Mx} {G H G' H' : Hp} {σ σ' : St} {δ δ' : List SD}
/-- slots in another order, some dropped -/
theorem SR.reix (s : SR M G H σ δ) (f : Nat → Nat) (hl : σ'.length = δ'.length) (h : ∀ j, j < δ'.length → δ'[j]? = some .no ∨ (δ'[j]? = δ[f j]? ∧ σ'[j]? = σ[f j]?)) (inj : ∀ i j, i < δ'.length → j < δ'.length → f i = f j → i = j) : SR M G H σ' δ' := by
  have lt : ∀ {j : Nat} {x : SD}, δ'[j]? = some x → j < δ'.length := fun e => (List.getElem?_eq_some_iff.mp e).1
  refine ⟨s.ok, s.st, hl, fun j sd e => ?_, fun a b l xs ys g1 g2 g3 g4 => ?_⟩
  · rcases h j (lt e) with q | ⟨q1, q2⟩
    · rw [q] at e; cases e; trivial
    · rw [q2]
      exact s.sl (f j) sd (q1 ▸ e)
  · rcases h a (lt g1) with q | ⟨q1, q2⟩
    · rw [q] at g1; cases g1
    rcases h b (lt g2) with q | ⟨q3, q4⟩
    · rw [q] at g2; cases g2
    exact inj a b (lt g1) (lt g2) (s.ds (f a) (f b) l xs ys (q1 ▸ g1) (q3 ▸ g2) (q2 ▸ g3) (q4 ▸ g4))
theorem pull_get {α : Type} (l : List α) (x : α) (t : List α) (i j : Nat) (hi : i < l.length) : (l.set i x ++ t)[j]? = (l ++ x :: t)[if j = i then l.length else if j < l.length then j else j + 1]? := by
  by_cases e : j = i
  · subst e
    rw [if_pos rfl, List.getElem?_append_left (by rw [List.length_set]; exact hi), List.getElem?_set_self hi, List.getElem?_append_right (Nat.le_refl _), Nat.sub_self]
    rfl
  · rw [if_neg e]
    by_cases hj : j < l.length
    · rw [if_pos hj, List.getElem?_append_left (by rw [List.length_set]; exact hj), List.getElem?_set_ne (Ne.symm e), List.getElem?_append_left hj]
    · rw [if_neg hj, List.getElem?_append_right (by rw [List.length_set]; omega), List.length_set, List.getElem?_append_right (by omega), Nat.succ_sub (by omega)]
      rfl
/-- the first slot of the tail comes to place i -/
theorem SR.pull {o : Option V} {x : SD} {τ : St} {ε : List SD} (s : SR M G H (σ ++ o :: τ) (δ ++ x :: ε)) (hl : σ.length = δ.length) (i : Nat) (hi : i < δ.length) : SR M G H (σ.set i o ++ τ) (δ.set i x ++ ε) := by
  have hlen : (σ ++ o :: τ).length = (δ ++ x :: ε).length := s.len
  simp only [List.length_append, List.length_cons] at hlen
  refine s.reix (fun j => if j = i then δ.length else if j < δ.length then j else j + 1) (by simp only [List.length_append, List.length_set]; omega) (fun j hj => .inr ⟨pull_get δ x ε i j hi, ?_⟩) (fun a b _ _ e => ?_)
  · rw [pull_get σ o τ i j (by omega), hl]
  · have e : (if a = i then δ.length else if a < δ.length then a else a + 1) = (if b = i then δ.length else if b < δ.length then b else b + 1) := e
    split at e <;> split at e <;> (try split at e) <;> (try split at e) <;> omega
/-- the tail dropped -/
theorem SR.front {τ : St} {ε : List SD} (s : SR M G H (σ ++ τ) (δ ++ ε)) (hl : σ.length = δ.length) : SR M G H σ δ := by
  refine s.reix id hl (fun j hj => .inr ?_) fun _ _ _ _ e => e
  show δ[j]? = (δ ++ ε)[j]? ∧ σ[j]? = (σ ++ τ)[j]?
  rw [List.getElem?_append_left hj, List.getElem?_append_left (by omega)]
  exact ⟨rfl, rfl⟩
/-- one more slot behind: data -/
theorem SR.pushDat (s : SR M G H σ δ) {v : V} {d : D} (r : Rp G v d) : SR M G H (σ ++ [some v]) (δ ++ [.dat d]) := by
  have hl := s.len
  refine ⟨s.ok, s.st, by simp [hl], fun j sd h => ?_, fun a b l xs ys g1 g2 g3 g4 => ?_⟩
  · by_cases hj : j < δ.length
    · rw [List.getElem?_append_left hj] at h
      rw [List.getElem?_append_left (by omega)]
      exact s.sl j sd h
    · rw [List.getElem?_append_right (by omega)] at h
      have e : j - δ.length = 0 := by
        have := (List.getElem?_eq_some_iff.mp h).1
        simp only [List.length_cons, List.length_nil] at this
        omega
      rw [e] at h
      cases h
      rw [List.getElem?_append_right (by omega), hl, e]
      exact ⟨v, rfl, r⟩
  · have lt : ∀ (j : Nat) (ys : List D), (δ ++ [SD.dat d])[j]? = some (.own ys) → j < δ.length := fun j ys q => by
      by_cases hj : j < δ.length
      · exact hj
      · rw [List.getElem?_append_right (by omega)] at q
        cases e : j - δ.length with
        | zero => rw [e] at q; cases q
        | succ n => rw [e] at q; cases q
    have l1 := lt a xs g1
    have l2 := lt b ys g2
    rw [List.getElem?_append_left l1] at g1
    rw [List.getElem?_append_left l2] at g2
    rw [List.getElem?_append_left (by omega)] at g3 g4
    exact s.ds a b l xs ys g1 g2 g3 g4
/-- .. a list of one's own -/
theorem SR.pushOwn (s : SR M G H σ δ) {l : Addr} {vs : List V} {es : List D} (h1 : H l = some (.lst vs)) (h2 : G l = none) (h3 : M.H0 l = none) (h4 : NotB M.B l) (r : RpA G vs es)
    (nw : ∀ (j : Nat) (ys : List D), δ[j]? = some (.own ys) → σ[j]? ≠ some (some (.ref l))) : SR M G H (σ ++ [some (.ref l)]) (δ ++ [.own es]) := by
  have hl := s.len
  refine ⟨s.ok, s.st, by simp [hl], fun j sd h => ?_, fun a b m xs ys g1 g2 g3 g4 => ?_⟩
  · by_cases hj : j < δ.length
    · rw [List.getElem?_append_left hj] at h
      rw [List.getElem?_append_left (by omega)]
      exact s.sl j sd h
    · rw [List.getElem?_append_right (by omega)] at h
      have e : j - δ.length = 0 := by
        have := (List.getElem?_eq_some_iff.mp h).1
        simp only [List.length_cons, List.length_nil] at this
        omega
      rw [e] at h
      cases h
      rw [List.getElem?_append_right (by omega), hl, e]
      exact ⟨l, vs, rfl, h1, h2, h3, h4, r⟩
  · have key : ∀ (j : Nat) (ys : List D), (δ ++ [SD.own es])[j]? = some (.own ys) → (σ ++ [some (V.ref l)])[j]? = some (some (.ref m)) → (j < δ.length ∧ δ[j]? = some (.own ys) ∧ σ[j]? = some (some (.ref m))) ∨ (j = δ.length ∧ m = l) := fun j ys q q2 => by
      by_cases hj : j < δ.length
      · rw [List.getElem?_append_left hj] at q
        rw [List.getElem?_append_left (by omega)] at q2
        exact .inl ⟨hj, q, q2⟩
      · rw [List.getElem?_append_right (by omega)] at q2
        have e : j - σ.length = 0 := by
          have := (List.getElem?_eq_some_iff.mp q2).1
          simp only [List.length_cons, List.length_nil] at this
          omega
        rw [e] at q2
        cases q2
        exact .inr ⟨by omega, rfl⟩
    rcases key a xs g1 g3 with ⟨l1, e1, e2⟩ | ⟨l1, e1⟩ <;> rcases key b ys g2 g4 with ⟨l2, e3, e4⟩ | ⟨l2, e3⟩
    · exact s.ds a b m xs ys e1 e3 e2 e4
    · exact absurd (e3 ▸ e2) (nw a xs e1)
    · exact absurd (e1 ▸ e4) (nw b ys e3)
    · omega
theorem SR.fresh (s : SR M G H σ δ) {p : Addr} (h : H p = none) : M.H0 p = none := by
  cases e : M.H0 p with
  | none => rfl
  | some o => exact absurd h (s.st.th p (ne_none e))
theorem SR.nowhere (s : SR M G H σ δ) {p : Addr} (h : H p = none) : ∀ (j : Nat) (ys : List D), δ[j]? = some (.own ys) → σ[j]? ≠ some (some (.ref p)) := fun j ys e z => by
  obtain ⟨l, vs, e1, h1, _⟩ := s.sl j _ e
  rw [z] at e1
  cases e1
  rw [h] at h1
  cases h1
end

/-! ### judgements -/
section
variable (M : Mx)
def WE (te : TE) (δ : List SD) (R : D → Prop) : Prop := ∀ G H σ, SR M G H σ δ → ∀ Q : VK, (∀ d v G' H', R d → Stp M.B G H G' H' → Ok M.B G' H' → Rp G' v d → Q v H') → te σ H Q
def WT (tt : TT) (δ : List SD) (R : Bool → Prop) : Prop := ∀ G H σ, SR M G H σ δ → ∀ Q : Bool → Hp → Prop, (∀ b G' H', R b → Stp M.B G H G' H' → Ok M.B G' H' → Q b H') → tt σ H Q
def WA (ta : TA) (δ : List SD) (R : List D → Prop) : Prop := ∀ G H σ, SR M G H σ δ → ∀ Q : List V → Hp → Prop, (∀ ds vs G' H', R ds → Stp M.B G H G' H' → Ok M.B G' H' → RpA G' vs ds → Q vs H') → ta σ H Q
def WO (to : TO) (δ : List SD) (R : Option Int → Prop) : Prop := ∀ G H σ, SR M G H σ δ → ∀ Q : Option Int → Hp → Prop, (∀ o G' H', R o → Stp M.B G H G' H' → Ok M.B G' H' → Q o H') → to σ H Q
/-- a new list of one's own -/
def WL (te : TE) (δ : List SD) (R : List D → Prop) : Prop := ∀ G H σ, SR M G H σ δ → ∀ Q : VK, (∀ ds p vs G' H', R ds → Stp M.B G H G' H' → Ok M.B G' H' → H p = none → G' p = none → H' p = some (.lst vs) → RpA G' vs ds → Q (.ref p) H') → te σ H Q
/-- several values, some of them new lists of one's own: as slots behind the others -/
def WS (ta : TA) (δ : List SD) (R : List SD → Prop) : Prop := ∀ G H σ τ ε, SR M G H (σ ++ τ) (δ ++ ε) → σ.length = δ.length → ∀ Q : List V → Hp → Prop, (∀ es vs G' H', R es → Same G G' → SR M G' H' (σ ++ τ ++ vs.map some) (δ ++ ε ++ es) → vs.length = es.length → Q vs H') → ta σ H Q
def JR (B : Bg) (G : Hp) (J : It) (xs : List D) : Prop := ∀ G1 H1, Same G G1 → Ok B G1 H1 → (∀ i, i < xs.length → J.go i H1) ∧ J.stop xs.length H1 ∧
  ∀ i x H2, i < xs.length → J.yld i H1 x H2 → ∃ G2 d, Stp B G1 H1 G2 H2 ∧ Ok B G2 H2 ∧ xs[i]? = some d ∧ Rp G2 x d
def WI (wi : TI) (δ : List SD) (R : List D → Prop) : Prop := ∀ G H σ, SR M G H σ δ → ∀ Q : It → Hp → Prop, (∀ xs J G' H', R xs → Stp M.B G H G' H' → Ok M.B G' H' → JR M.B G' J xs → Q J H') → wi σ H Q
/-- .. while nothing of one's own is written -/
def JW (B : Bg) (G H : Hp) (J : It) (xs : List D) : Prop := ∀ G1 H1, Stp B G H G1 H1 → Ok B G1 H1 → (∀ i, i < xs.length → J.go i H1) ∧ J.stop xs.length H1 ∧
  ∀ i x H2, i < xs.length → J.yld i H1 x H2 → ∃ G2 d, Stp B G1 H1 G2 H2 ∧ Ok B G2 H2 ∧ xs[i]? = some d ∧ Rp G2 x d
def WJ (wi : TI) (δ : List SD) (R : List D → Prop) : Prop := ∀ G H σ, SR M G H σ δ → ∀ Q : It → Hp → Prop, (∀ xs J G' H', R xs → Stp M.B G H G' H' → Ok M.B G' H' → JW M.B G' H' J xs → Q J H') → wi σ H Q
/-- a target of names: slots of the list alone are written -/
def WG (is : List Nat) (g : TG) (d : D) (δ : List SD) (N : List SD → Prop) : Prop := ∀ G H σ v, SR M G H σ δ → Rp G v d → ∀ Q : St → Hp → Prop, (∀ δ' σ', N δ' → SR M G H σ' δ' → σ'.length = σ.length → (∀ j, j ∉ is → σ'[j]? = σ[j]?) → Q σ' H) → g v σ H Q
def WGs (is : List Nat) (g : TGs) (ds : List D) (δ : List SD) (N : List SD → Prop) : Prop := ∀ G H σ vs, SR M G H σ δ → RpA G vs ds → ∀ Q : St → Hp → Prop, (∀ δ' σ', N δ' → SR M G H σ' δ' → σ'.length = σ.length → (∀ j, j ∉ is → σ'[j]? = σ[j]?) → Q σ' H) → g vs σ H Q
end
/-- what is wanted of the other ways out -/
structure Kn where
  rt : D → Prop
  bk : List SD → Prop := fun _ => False
  ct : List SD → Prop := fun _ => False
def SS (M : Mx) (ts : TS) (δ : List SD) (N : List SD → Prop) (K : Kn) : Prop := ∀ G H σ, SR M G H σ δ → ∀ Dn : Ends,
  (∀ δ' G' H' σ', N δ' → Same G G' → SR M G' H' σ' δ' → Dn.nx σ' H') → (∀ δ' G' H' σ', K.bk δ' → Same G G' → SR M G' H' σ' δ' → Dn.bk σ' H') → (∀ δ' G' H' σ', K.ct δ' → Same G G' → SR M G' H' σ' δ' → Dn.ct σ' H') →
  (∀ d v G' H', K.rt d → Same G G' → Ok M.B G' H' → Stp M.B M.G0 M.H0 G' H' → Rp G' v d → Dn.rt v H') → ts Dn σ H

section
variable {M : Mx} {δ : List SD} {R : D → Prop} {ta tb te tc : TE}
/-! ### names, constants -/
theorem we_var {i : Nat} {d : D} (h : δ[i]? = some (.dat d)) (r : R d) : WE M (tVar i) δ R := fun G H σ s Q q => by
  obtain ⟨v, e, p⟩ := s.sl i _ h
  exact ⟨v, e, q d v G H r (Stp.refl _ _ _) s.ok p⟩
theorem we_c {v : V} {d : D} (hd : ∀ G, Rp G v d) (r : R d) : WE M (tC v) δ R := fun G H σ s Q q => q d v G H r (Stp.refl _ _ _) s.ok (hd G)
theorem we_int {i : Int} (r : R (.int i)) : WE M (tC (.int i)) δ R := we_c (fun _ => .int i) r
theorem we_bl {b : Bool} (r : R (.bool b)) : WE M (tC (.bl b)) δ R := we_c (fun _ => .bl b) r
theorem we_non (r : R .none) : WE M (tC .non) δ R := we_c (fun _ => .non) r
theorem we_str {x : Str} (r : R (.str x)) : WE M (tC (.str x)) δ R := we_c (fun _ => .str x) r
theorem we_imp {R' : D → Prop} (h : WE M te δ R') (k : ∀ d, R' d → R d) : WE M te δ R := fun G H σ s Q q => h G H σ s Q fun d v G' H' r => q d v G' H' (k d r)
/-- owned lists read as data, for a value that hangs on no object -/
theorem we_frz (h : WE M te (frz δ) (fun d => sc d = true ∧ R d)) : WE M te δ R := fun G H σ s Q q => by
  obtain ⟨G1, e, s1, hn⟩ := s.frz
  refine h G1 H σ s1 Q fun d v G' H' r st ok p => q d v G H' r.2 ⟨Same.refl G, st.hh, fun _ _ g => g, st.th⟩ ⟨?_, fun b c hb => ?_, fun P q hp => ?_⟩ (p.scal r.1)
  · exact fun a o g => ok.gh a o (st.gg a o (e a o g))
  · obtain ⟨k1, k2, _⟩ := s.ok.bag b c hb
    exact ⟨k1, k2, (ok.bag b c hb).2.2⟩
  · exact ⟨(s.ok.tab P q hp).1, (ok.tab P q hp).2⟩
theorem wt_frz {tt : TT} {R : Bool → Prop} (h : WT M tt (frz δ) R) : WT M tt δ R := fun G H σ s Q q => by
  obtain ⟨G1, e, s1, hn⟩ := s.frz
  refine h G1 H σ s1 Q fun b G' H' r st ok => q b G H' r ⟨Same.refl G, st.hh, fun _ _ g => g, st.th⟩ ⟨?_, fun b c hb => ?_, fun P q hp => ?_⟩
  · exact fun a o g => ok.gh a o (st.gg a o (e a o g))
  · obtain ⟨k1, k2, _⟩ := s.ok.bag b c hb
    exact ⟨k1, k2, (ok.bag b c hb).2.2⟩
  · exact ⟨(s.ok.tab P q hp).1, (ok.tab P q hp).2⟩
/-- a new list stands still -/
theorem we_of_wl (h : WL M te δ (fun ds => R (.list ds))) : WE M te δ R := fun G H σ s Q q => by
  refine h G H σ s Q fun ds p vs G' H' r st ok hp hg hh ra => ?_
  have e := same_upd (o := .lst vs) hg
  have np : ∀ a, H a ≠ none → a ≠ p := fun a x z => x (z ▸ hp)
  refine q (.list ds) (.ref p) (upd G' p (.lst vs)) H' r ⟨st.gg.trans e, st.hh, fun a x g => by rw [upd_ne (np a x)]; exact st.fr a x g, st.th⟩ ⟨fun a o x => ?_, fun b c hb => ?_, fun P qq hP => ?_⟩ (.lst upd_same (RpA.mono e _ _ ra))
  · by_cases z : a = p
    · subst z; rw [upd_same] at x; cases x; exact hh
    · rw [upd_ne z] at x; exact ok.gh a o x
  · obtain ⟨k1, k2, k3⟩ := ok.bag b c hb
    obtain ⟨x, y, w, ns, h1, _⟩ := (s.ok.bag b c hb).2.2
    obtain ⟨u, hu⟩ := some_of k2
    exact ⟨by rw [upd_ne (np b (ne_none h1))]; exact k1, ne_none (e _ _ hu), k3⟩
  · obtain ⟨k1, k2⟩ := ok.tab P qq hP
    obtain ⟨ps, h1, _⟩ := (s.ok.tab P qq hP).2
    exact ⟨by rw [upd_ne (np P (ne_none h1))]; exact k1, k2⟩

/-! ### operators -/
def RD (B : Bg) (r : R2) (rd : D → D → (D → Prop) → Prop) : Prop := ∀ G H x y vx vy (R : D → Prop) (Q : VK), Ok B G H → Rp G vx x → Rp G vy y → rd x y R → (∀ d v G' H', R d → Stp B G H G' H' → Ok B G' H' → Rp G' v d → Q v H') → r vx vy H Q
theorem we_op {r : R2} {rd : D → D → (D → Prop) → Prop} (hr : RD M.B r rd) (h : WE M ta δ (fun x => WE M tb δ (fun y => rd x y R))) : WE M (tOp r ta tb) δ R := fun G H σ s Q q => by
  refine h G H σ s _ fun x vx G1 H1 r1 st1 ok1 p1 => ?_
  refine r1 G1 H1 σ (s.step st1 ok1) _ fun y vy G2 H2 r2 st2 ok2 p2 => ?_
  exact hr G2 H2 x y vx vy R Q ok2 (p1.mono st2.gg) p2 r2 fun d v G' H' rr st ok p => q d v G' H' rr (st1.trans (st2.trans st)) ok p
def dI (g : Int → Int → D) : D → D → (D → Prop) → Prop := fun x y R => ∃ i j, x = .int i ∧ y = .int j ∧ R (g i j)
def dIC (C : Int → Int → Prop) (g : Int → Int → D) : D → D → (D → Prop) → Prop := fun x y R => ∃ i j, x = .int i ∧ y = .int j ∧ C i j ∧ R (g i j)
theorem rd_I0 {B : Bg} {g : Int → Int → V} {gd : Int → Int → D} (hg : ∀ i j G, Rp G (g i j) (gd i j)) : RD B (rI0 g) (dI gd) := fun G H x y vx vy R Q ok px py h q => by
  obtain ⟨i, j, rfl, rfl, r⟩ := h
  exact ⟨i, j, px.int_inv, py.int_inv, q _ _ G H r (Stp.refl _ _ _) ok (hg i j G)⟩
theorem rd_I {B : Bg} {C : Int → Int → Prop} {g : Int → Int → V} {gd : Int → Int → D} (hg : ∀ i j G, Rp G (g i j) (gd i j)) : RD B (rI C g) (dIC C gd) := fun G H x y vx vy R Q ok px py h q => by
  obtain ⟨i, j, rfl, rfl, c, r⟩ := h
  exact ⟨i, j, px.int_inv, py.int_inv, c, q _ _ G H r (Stp.refl _ _ _) ok (hg i j G)⟩
def dOr (f g : D → D → (D → Prop) → Prop) : D → D → (D → Prop) → Prop := fun x y R => f x y R ∨ g x y R
def rOr (r r' : R2) : R2 := fun x y H Q => r x y H Q ∨ r' x y H Q
theorem op_or {X : Cx} {f : Value → Value → Sem Value} {r r' : R2} (h : OpR X f r) (h' : OpR X f r') : OpR X f (rOr r r') := fun pins s σ H x y v u Q I rx ry q => by
  rcases q with q | q
  · exact h pins s σ H x y v u Q I rx ry q
  · exact h' pins s σ H x y v u Q I rx ry q
theorem rd_or {B : Bg} {r r' : R2} {f g : D → D → (D → Prop) → Prop} (h : RD B r f) (h' : RD B r' g) : RD B (rOr r r') (dOr f g) := fun G H x y vx vy R Q ok px py k q => by
  rcases k with k | k
  · exact .inl (h G H x y vx vy R Q ok px py k q)
  · exact .inr (h' G H x y vx vy R Q ok px py k q)
/-- a two-place operation whose value hangs on no object -/
theorem rd_val {B : Bg} {r : R2} {f : D → D → (D → Prop) → Prop} (h : ∀ G H x y vx vy (R : D → Prop) (Q : VK), Ok B G H → Rp G vx x → Rp G vy y → f x y R → (∀ d v, R d → Rp G v d → Q v H) → r vx vy H Q) : RD B r f :=
  fun G H x y vx vy R Q ok px py k q => h G H x y vx vy R Q ok px py k fun d v rr p => q d v G H rr (Stp.refl _ _ _) ok p
theorem Same.rp {G H : Hp} (e : Same G H) {v : V} {d : D} (p : Rp G v d) : Rp H v d := p.mono e
def dEq : D → D → (D → Prop) → Prop := fun x y R => SeqAt.shaped x = true ∧ SeqAt.shaped y = true ∧ R (.bool (PyData.eqv x y))
def dNe : D → D → (D → Prop) → Prop := fun x y R => SeqAt.shaped x = true ∧ SeqAt.shaped y = true ∧ R (.bool (!PyData.eqv x y))
theorem rd_eq {B : Bg} {K : PySem.W.Frag} : RD B (rEqD K) dEq := rd_val fun G H x y vx vy R Q ok px py k q => ⟨x, y, (px.mono ok.gh).dp, (py.mono ok.gh).dp, k.1, k.2.1, q _ _ k.2.2 (.bl _)⟩
theorem rd_ne {B : Bg} {K : PySem.W.Frag} : RD B (rNeD K) dNe := rd_val fun G H x y vx vy R Q ok px py k q => ⟨x, y, (px.mono ok.gh).dp, (py.mono ok.gh).dp, k.1, k.2.1, q _ _ k.2.2 (.bl _)⟩
def dCatL : D → D → (D → Prop) → Prop := fun x y R => ∃ xs ys, x = .list xs ∧ y = .list ys ∧ xs.length + ys.length ≤ sizeLine ∧ R (.list (xs ++ ys))
theorem rd_catL {B : Bg} : RD B rCat dCatL := fun G H x y vx vy R Q ok px py k q => by
  obtain ⟨xs, ys, rfl, rfl, hz, r⟩ := k
  obtain ⟨a, us, rfl, ha, ra⟩ := px.lst_inv
  obtain ⟨b, ws, rfl, hb, rb⟩ := py.lst_inv
  refine ⟨a, b, us, ws, rfl, rfl, ok.gh _ _ ha, ok.gh _ _ hb, by rw [ra.length, rb.length]; exact hz, fun p hp => ?_⟩
  obtain ⟨st, k1⟩ := Stp.new ok (.lst (us ++ ws)) hp
  exact q _ _ _ _ r st k1 (.lst upd_same (RpA.mono st.gg _ _ (ra.append rb)))
def dRepL : D → D → (D → Prop) → Prop := fun x y R => ∃ xs k, x = .list xs ∧ y = .int k ∧ -(2 ^ 63) ≤ k ∧ k < 2 ^ 63 ∧ xs.length * k.toNat ≤ sizeLine ∧ R (.list (List.replicate k.toNat xs).flatten)
theorem rd_repL {B : Bg} : RD B rRep dRepL := fun G H x y vx vy R Q ok px py k q => by
  obtain ⟨xs, n, rfl, rfl, h1, h2, hz, r⟩ := k
  obtain ⟨a, us, rfl, ha, ra⟩ := px.lst_inv
  refine ⟨a, n, us, rfl, py.int_inv, ok.gh _ _ ha, h1, h2, by rw [ra.length]; exact hz, fun p hp => ?_⟩
  obtain ⟨st, k1⟩ := Stp.new ok (.lst (List.replicate n.toNat us).flatten) hp
  exact q _ _ _ _ r st k1 (.lst upd_same (RpA.mono st.gg _ _ (ra.flat _)))
theorem atI_rp {G : Hp} {vs : List V} {ds : List D} {i : Int} {d : D} (r : RpA G vs ds) (h : atI ds i = some d) : ∃ v, atI vs i = some v ∧ Rp G v d := by
  unfold atI at h ⊢
  rw [r.length]
  cases e : ixN ds.length i with
  | none => rw [e] at h; cases h
  | some j =>
    rw [e] at h
    exact r.get h
def dIx : D → D → (D → Prop) → Prop := fun x y R => ∃ i d, y = .int i ∧ ((∃ xs, x = .list xs ∧ atI xs i = some d) ∨ (∃ xs, x = .tuple xs ∧ atI xs i = some d)) ∧ R d
theorem rd_ix {B : Bg} {K : PySem.W.Frag} : RD B (rIx K) dIx := rd_val fun G H x y vx vy R Q ok px py k q => by
  obtain ⟨i, d, rfl, ⟨xs, rfl, h⟩ | ⟨xs, rfl, h⟩, r⟩ := k
  · obtain ⟨a, us, rfl, ha, ra⟩ := px.lst_inv
    obtain ⟨v, e, p⟩ := atI_rp ra h
    exact .inl ⟨a, us, i, v, rfl, py.int_inv, SqL.of (ok.gh _ _ ha), e, q _ _ r p⟩
  · obtain ⟨a, us, rfl, ha, ra⟩ := px.tup_inv
    obtain ⟨v, e, p⟩ := atI_rp ra h
    exact .inr (.inl ⟨a, us, i, v, rfl, py.int_inv, (ha.same ok.gh).sq, e, q _ _ r p⟩)
/-- x is None -/
def dIsN : D → D → (D → Prop) → Prop := fun x y R => y = .none ∧ R (.bool (match x with | .none => true | _ => false))
def dNotN : D → D → (D → Prop) → Prop := fun x y R => y = .none ∧ R (.bool (match x with | .none => false | _ => true))
theorem rd_isN {B : Bg} : RD B (fun x y H Q => y = .non ∧ Q (.bl (decide (x = .non))) H) dIsN := rd_val fun G H x y vx vy R Q ok px py k q => by
  obtain ⟨rfl, r⟩ := k
  refine ⟨py.non_inv, q _ _ r ?_⟩
  cases px <;> exact .bl _
theorem rd_notN {B : Bg} : RD B (fun x y H Q => y = .non ∧ Q (.bl (!decide (x = .non))) H) dNotN := rd_val fun G H x y vx vy R Q ok px py k q => by
  obtain ⟨rfl, r⟩ := k
  refine ⟨py.non_inv, q _ _ r ?_⟩
  cases px <;> exact .bl _
/-- a chain a < b == c -/
theorem we_chain {r r' : R2} {f g : D → D → (D → Prop) → Prop} (hr : RD M.B r f) (hr' : RD M.B r' g) (h : WE M ta δ (fun x => WE M tb δ (fun y => f x y (fun z => ∃ k, z = .bool k ∧ (k = true → WE M tc δ (fun w => g y w R)) ∧ (k = false → R (.bool false)))))) : WE M (tChain r r' ta tb tc) δ R := fun G H σ s Q q => by
  refine h G H σ s _ fun x vx G1 H1 r1 st1 ok1 p1 => ?_
  refine r1 G1 H1 σ (s.step st1 ok1) _ fun y vy G2 H2 r2 st2 ok2 p2 => ?_
  refine hr G2 H2 x y vx vy _ _ ok2 (p1.mono st2.gg) p2 r2 fun d v G3 H3 rr st3 ok3 p => ?_
  obtain ⟨k, rfl, k1, k2⟩ := rr
  refine ⟨k, p.bl_inv, ?_⟩
  cases k with
  | true =>
    rw [if_pos rfl]
    refine k1 rfl G3 H3 σ (((s.step st1 ok1).step st2 ok2).step st3 ok3) _ fun w vw G4 H4 r4 st4 ok4 p4 => ?_
    exact hr' G4 H4 y w vy vw R Q ok4 ((p2.mono st3.gg).mono st4.gg) p4 r4 fun d v G' H' rr st ok p => q d v G' H' rr (st1.trans (st2.trans (st3.trans (st4.trans st)))) ok p
  | false =>
    rw [if_neg (by decide)]
    exact q _ _ G3 H3 (k2 rfl) (st1.trans (st2.trans st3)) ok3 (.bl _)

/-! ### slices -/
def cutD (xs : List D) (lo hi : Option Int) : List D := (xs.drop (HT.sIx xs.length 0 lo)).take (HT.sIx xs.length xs.length hi - HT.sIx xs.length 0 lo)
theorem cut_rp {G : Hp} {vs : List V} {ds : List D} (r : RpA G vs ds) (lo hi : Option Int) : RpA G (cutV vs lo hi) (cutD ds lo hi) := by
  unfold cutV cutD
  rw [r.length]
  exact (r.drop _).take _
theorem cut_all {ds : List D} {lo hi : Option Int} (h : HT.sIx ds.length 0 lo = 0 ∧ HT.sIx ds.length ds.length hi = ds.length) : cutD ds lo hi = ds := by
  unfold cutD
  rw [h.1, h.2, List.drop_zero, Nat.sub_zero, List.take_length]
def dSl (x : D) (lo hi : Option Int) (R : D → Prop) : Prop := (∃ xs, x = .list xs ∧ R (.list (cutD xs lo hi))) ∨ (∃ xs, x = .tuple xs ∧ R (.tuple (cutD xs lo hi)))
theorem wo_none {R : Option Int → Prop} (r : R none) : WO M tNoPart δ R := fun G H σ s Q q => q none G H r (Stp.refl _ _ _) s.ok
theorem wo_some {R : Option Int → Prop} (h : WE M te δ (fun d => ∃ i, d = .int i ∧ R (some i))) : WO M (tPart te) δ R := fun G H σ s Q q =>
  h G H σ s _ fun d v G1 H1 ⟨i, e, r⟩ st ok p => ⟨i, by rw [e] at p; exact p.int_inv, q (some i) G1 H1 r st ok⟩

/-! ### tests -/
theorem wt_test {R : Bool → Prop} (h : WE M te δ (fun d => ∃ b, d = .bool b ∧ R b)) : WT M (tTest te) δ R := fun G H σ s Q q =>
  h G H σ s _ fun d v G1 H1 ⟨b, e, r⟩ st ok p => ⟨b, by rw [e] at p; exact p.bl_inv, q b G1 H1 r st ok⟩
theorem wt_B {R : Bool → Prop} (h : WE M te δ (fun d => ∃ b, d = .bool b ∧ R b)) : WT M (tB te) δ R := fun G H σ s Q q =>
  h G H σ s _ fun d v G1 H1 ⟨b, e, r⟩ st ok p => ⟨b, by rw [e] at p; exact p.bl_inv, q b G1 H1 r st ok⟩
theorem wt_and {t u : TT} {R : Bool → Prop} (h : WT M t δ (fun b => (b = true → WT M u δ R) ∧ (b = false → R false))) : WT M (tAnd t u) δ R := fun G H σ s Q q =>
  h G H σ s _ fun b G1 H1 r st ok => by
    cases b with
    | true =>
      rw [if_pos rfl]
      exact r.1 rfl G1 H1 σ (s.step st ok) Q fun b G2 H2 r2 st2 ok2 => q b G2 H2 r2 (st.trans st2) ok2
    | false =>
      rw [if_neg (by decide)]
      exact q false G1 H1 (r.2 rfl) st ok
theorem wt_or {t u : TT} {R : Bool → Prop} (h : WT M t δ (fun b => (b = true → R true) ∧ (b = false → WT M u δ R))) : WT M (tOr t u) δ R := fun G H σ s Q q =>
  h G H σ s _ fun b G1 H1 r st ok => by
    cases b with
    | true =>
      rw [if_pos rfl]
      exact q true G1 H1 (r.1 rfl) st ok
    | false =>
      rw [if_neg (by decide)]
      exact r.2 rfl G1 H1 σ (s.step st ok) Q fun b G2 H2 r2 st2 ok2 => q b G2 H2 r2 (st.trans st2) ok2
theorem wt_not {t : TT} {R : Bool → Prop} (h : WT M t δ (fun b => R (!b))) : WT M (tNot t) δ R := fun G H σ s Q q => h G H σ s _ fun b G1 H1 r st ok => q (!b) G1 H1 r st ok
theorem wt_yes {R : Bool → Prop} (r : R true) : WT M tYes δ R := fun G H σ s Q q => q true G H r (Stp.refl _ _ _) s.ok
theorem we_andV (h : WE M ta δ (fun x => ∃ b, x = .bool b ∧ (b = true → WE M tb δ R) ∧ (b = false → R (.bool false)))) : WE M (tAndV ta tb) δ R := fun G H σ s Q q =>
  h G H σ s _ fun d v G1 H1 ⟨b, e, r1, r2⟩ st ok p => ⟨b, by rw [e] at p; exact p.bl_inv, by
    cases b with
    | true =>
      rw [if_pos rfl]
      exact r1 rfl G1 H1 σ (s.step st ok) Q fun d v G2 H2 r2 st2 ok2 => q d v G2 H2 r2 (st.trans st2) ok2
    | false =>
      rw [if_neg (by decide)]
      exact q _ _ G1 H1 (r2 rfl) st ok (.bl _)⟩
theorem we_if {t : TT} (h : WT M t δ (fun b => (b = true → WE M ta δ R) ∧ (b = false → WE M tb δ R))) : WE M (tIf t ta tb) δ R := fun G H σ s Q q =>
  h G H σ s _ fun b G1 H1 r st ok => by
    cases b with
    | true =>
      rw [if_pos rfl]
      exact r.1 rfl G1 H1 σ (s.step st ok) Q fun d v G2 H2 r2 st2 ok2 => q d v G2 H2 r2 (st.trans st2) ok2
    | false =>
      rw [if_neg (by decide)]
      exact r.2 rfl G1 H1 σ (s.step st ok) Q fun d v G2 H2 r2 st2 ok2 => q d v G2 H2 r2 (st.trans st2) ok2

/-! ### arguments, displays -/
theorem wa_nil {R : List D → Prop} (r : R []) : WA M tNil δ R := fun G H σ s Q q => q [] [] G H r (Stp.refl _ _ _) s.ok .nil
theorem wa_cons {tr : TA} {R : List D → Prop} (h : WE M te δ (fun d => WA M tr δ (fun ds => R (d :: ds)))) : WA M (tCons te tr) δ R := fun G H σ s Q q =>
  h G H σ s _ fun d v G1 H1 r st ok p => r G1 H1 σ (s.step st ok) _ fun ds vs G2 H2 r2 st2 ok2 p2 => q (d :: ds) (v :: vs) G2 H2 r2 (st.trans st2) ok2 (.cons (p.mono st2.gg) p2)
/-- a new tuple, its object known -/
def tTupF (t : TA) : TE := fun σ H Q => t σ H fun xs H1 => xs.length ≤ sizeLine ∧ ∀ (p : Addr) (o : Obj), o.dict = none → H1 p = none → Q (.ref p) (upd H1 p (.frz o (.tup xs)))
theorem we_tup {tr : TA} (h : WA M tr δ (fun ds => ds.length ≤ sizeLine ∧ R (.tuple ds))) : WE M (tTupF tr) δ R := fun G H σ s Q q =>
  h G H σ s _ fun ds vs G1 H1 ⟨hz, r⟩ st ok p => ⟨by rw [p.length]; exact hz, fun a o ho ha => by
    obtain ⟨st2, ok2⟩ := Stp.new ok (.frz o (.tup vs)) ha
    exact q _ _ _ _ r (st.trans st2) ok2 (.tup ⟨o, ho, upd_same⟩ (RpA.mono st2.gg _ _ p))⟩
theorem wl_lst {tr : TA} {R : List D → Prop} (h : WA M tr δ (fun ds => ds.length ≤ sizeLine ∧ R ds)) : WL M (tLst tr) δ R := fun G H σ s Q q =>
  h G H σ s _ fun ds vs G1 H1 ⟨hz, r⟩ st ok p => ⟨by rw [p.length]; exact hz, fun a ha => by
    obtain ⟨st2, ok2⟩ := Stp.newH ok (.lst vs) ha
    have hn : H a = none := by
      cases e : H a with
      | none => rfl
      | some o => exact absurd ha (st.th a (ne_none e))
    exact q _ _ _ _ _ r (st.trans st2) ok2 hn (ok.free ha) upd_same p⟩
theorem ws_nil {R : List SD → Prop} (r : R []) : WS M tNil δ R := fun G H σ τ ε s hl Q q => q [] [] G H r (Same.refl G) (by simpa using s) rfl
theorem ws_dat {tr : TA} {R : List SD → Prop} (h : WE M te δ (fun d => WS M tr δ (fun es => R (.dat d :: es)))) : WS M (tCons te tr) δ R := fun G H σ τ ε s hl Q q =>
  h G H σ (s.front hl) _ fun d v G1 H1 r st ok p => by
    have s1 := (s.step st ok).pushDat p
    rw [List.append_assoc, List.append_assoc] at s1
    refine r G1 H1 σ (τ ++ [some v]) (ε ++ [.dat d]) s1 hl _ fun es vs G2 H2 r2 g2 s2 hv => ?_
    refine q (.dat d :: es) (v :: vs) G2 H2 r2 (st.gg.trans g2) ?_ (congrArg (· + 1) hv)
    simpa using s2
theorem ws_own {tr : TA} {R : List SD → Prop} (h : WL M te δ (fun ds => WS M tr δ (fun es => R (.own ds :: es)))) : WS M (tCons te tr) δ R := fun G H σ τ ε s hl Q q =>
  h G H σ (s.front hl) _ fun ds p us G1 H1 r st ok hp hg hh ra => by
    have s0 := s.step st ok
    have s1 := s0.pushOwn hh hg (s.fresh hp) (s.ok.notB hp) ra (s.nowhere hp)
    rw [List.append_assoc, List.append_assoc] at s1
    refine r G1 H1 σ (τ ++ [some (.ref p)]) (ε ++ [.own ds]) s1 hl _ fun es vs G2 H2 r2 g2 s2 hv => ?_
    refine q (.own ds :: es) (.ref p :: vs) G2 H2 r2 (st.gg.trans g2) ?_ (congrArg (· + 1) hv)
    simpa using s2
end

/-! ### calls -/
/-- a contract: logical letters, the arguments, what is asked, what is promised -/
structure Ct where
  α : Type
  args : α → List D
  pre : α → Prop
  post : α → D → Prop
def spG (B : Bg) (C : Ct) (vs : List V) (H : Hp) (Q : VK) : Prop := ∃ (G : Hp) (a : C.α), Ok B G H ∧ RpA G vs (C.args a) ∧ C.pre a ∧ ∀ d v G' H', C.post a d → Stp B G H G' H' → Ok B G' H' → Rp G' v d → Q v H'
/-- a def of data alone -/
def spP (C : Ct) : Sp := fun vs H Q _ => spG {} C vs H Q
/-- a def that makes a lambda -/
def spT (T : Addr × Str) (C : Ct) : Sp := fun vs H Q _ => spG { tab := some T } C vs H Q
/-- a def whose first argument is the bag -/
def spB (T : Addr × Str) (C : Ct) : Sp := fun vs H Q _ => ∃ b c vs', vs = .ref b :: vs' ∧ spG { bag := some (b, c), tab := some T } C vs' H Q
section
variable {M : Mx} {δ : List SD} {R : D → Prop} {ta tb te tc : TE}
theorem we_call {C : Ct} {tr : TA} {E : XK} (h : WA M tr δ (fun ds => ∃ a, ds = C.args a ∧ C.pre a ∧ ∀ d, C.post a d → R d)) : WE M (tCall (spP C) [] E tr) δ R := fun G H σ s Q q =>
  h G H σ s _ fun ds vs G1 H1 ⟨a, e, hp, r⟩ st ok p => by
    subst e
    rw [List.append_nil]
    exact ⟨G1, a, ok.down, p, hp, fun d v G' H' hd st2 ok2 p2 => q d v G' H' (r d hd) (st.trans st2.up) (ok.up st2 ok2) p2⟩
theorem we_callB {T : Addr × Str} {C : Ct} {tr : TA} {E : XK} {i : Nat} (hT : M.B.tab = some T) (hb : δ[i]? = some .bag) (h : WA M tr δ (fun ds => ∃ a, ds = C.args a ∧ C.pre a ∧ ∀ d, C.post a d → R d)) : WE M (tCall (spB T C) [] E (tCons (tVar i) tr)) δ R := fun G H σ s Q q => by
  obtain ⟨b, c, e1, e2⟩ := s.sl i _ hb
  have eB : M.B = { bag := some (b, c), tab := some T } := by
    have : M.B = ⟨M.B.bag, M.B.tab⟩ := rfl
    rw [this, e1, hT]
  refine ⟨.ref b, e2, h G H σ s _ fun ds vs G1 H1 ⟨a, e, hp, r⟩ st ok p => ?_⟩
  subst e
  rw [List.append_nil]
  refine ⟨b, c, vs, rfl, G1, a, eB ▸ ok, p, hp, fun d v G' H' hd st2 ok2 p2 => ?_⟩
  rw [← eB] at st2 ok2
  exact q d v G' H' (r d hd) (st.trans st2) ok2 p2
theorem Ok.downT {B : Bg} {T : Addr × Str} {G H : Hp} (k : Ok B G H) (hT : B.tab = some T) : Ok { tab := some T } G H :=
  ⟨k.gh, (fun _ _ h => nomatch h), fun P q e => k.tab P q (by rw [hT]; exact e)⟩
theorem we_callT {T : Addr × Str} {C : Ct} {tr : TA} {E : XK} (hT : M.B.tab = some T) (h : WA M tr δ (fun ds => ∃ a, ds = C.args a ∧ C.pre a ∧ ∀ d, C.post a d → R d)) : WE M (tCall (spT T C) [] E tr) δ R := fun G H σ s Q q =>
  h G H σ s _ fun ds vs G1 H1 ⟨a, e, hp, r⟩ st ok p => by
    subst e
    rw [List.append_nil]
    have ne : ∀ b c, M.B.bag = some (b, c) → b ≠ T.1 ∧ c ≠ T.1 := fun b c hb => by
      obtain ⟨ps, h1, _⟩ := (ok.tab T.1 T.2 hT).2
      obtain ⟨_, _, x, y, z, ns, h2, h3, _⟩ := ok.bag b c hb
      exact ⟨ne_of h2 h1 (fun z => nomatch z), ne_of h3 h1 (fun z => nomatch z)⟩
    refine ⟨G1, a, ok.downT hT, p, hp, fun d v G' H' hd st2 ok2 p2 => q d v G' H' (r d hd) (st.trans ⟨st2.gg, fun x o n e => st2.hh x o ⟨(fun _ z => nomatch z), fun p' e' => n.2 p' (by rw [hT]; exact e')⟩ e, st2.fr, st2.th⟩) ⟨ok2.gh, fun b c hb => ?_, fun P qq e => ok2.tab P qq (by rw [← hT]; exact e)⟩ p2⟩
    obtain ⟨k1, k2, k3⟩ := ok.bag b c hb
    obtain ⟨x, y, z, ns, h2, h3, h4⟩ := id k3
    obtain ⟨n1, n2⟩ := ne b c hb
    have nb : ∀ a, a ≠ T.1 → NotB { tab := some T } a := fun a na => ⟨(fun _ z => nomatch z), fun p' e' => by cases e'; exact na⟩
    obtain ⟨u, hu⟩ := some_of k2
    exact ⟨st2.fr b (ne_none h2) k1, ne_none (st2.gg _ _ hu), x, y, z, ns, st2.hh _ _ (nb b n1) h2, st2.hh _ _ (nb c n2) h3, h4⟩
/-- a built-in's call by values -/
def RC (B : Bg) (r : List V → Hp → VK → Prop) (rd : List D → (D → Prop) → Prop) : Prop := ∀ G H ds vs (R : D → Prop) (Q : VK), Ok B G H → RpA G vs ds → rd ds R → (∀ d v G' H', R d → Stp B G H G' H' → Ok B G' H' → Rp G' v d → Q v H') → r vs H Q
theorem we_cb {r : List V → Hp → VK → Prop} {rd : List D → (D → Prop) → Prop} {tr : TA} (hr : RC M.B r rd) (h : WA M tr δ (fun ds => rd ds R)) : WE M (tCB r tr) δ R := fun G H σ s Q q =>
  h G H σ s _ fun ds vs G1 H1 r1 st ok p => hr G1 H1 ds vs R Q ok p r1 fun d v G' H' rr st2 ok2 p2 => q d v G' H' rr (st.trans st2) ok2 p2
/-- a slice -/
def RS (B : Bg) (r : V → Option Int → Option Int → Hp → VK → Prop) : Prop := ∀ G H x vx lo hi (R : D → Prop) (Q : VK), Ok B G H → Rp G vx x → dSl x lo hi R → (∀ d v G' H', R d → Stp B G H G' H' → Ok B G' H' → Rp G' v d → Q v H') → r vx lo hi H Q
theorem we_sl {r : V → Option Int → Option Int → Hp → VK → Prop} {tl th : TO} (hr : RS M.B r) (h : WE M te δ (fun x => WO M tl δ (fun lo => WO M th δ (fun hi => dSl x lo hi R)))) : WE M (tSl r te tl th) δ R := fun G H σ s Q q =>
  h G H σ s _ fun x vx G1 H1 r1 st1 ok1 p1 => r1 G1 H1 σ (s.step st1 ok1) _ fun lo G2 H2 r2 st2 ok2 => r2 G2 H2 σ ((s.step st1 ok1).step st2 ok2) _ fun hi G3 H3 r3 st3 ok3 =>
    hr G3 H3 x vx lo hi R Q ok3 ((p1.mono st2.gg).mono st3.gg) r3 fun d v G' H' rr st ok p => q d v G' H' rr (st1.trans (st2.trans (st3.trans st))) ok p
end

/-! ### targets -/
section
variable {M : Mx} {δ : List SD} {N : List SD → Prop} {is : List Nat}
theorem wg_name {i : Nat} {d : D} (hi : i ∈ is) (h : N (δ.set i (.dat d))) : WG M is (gName i) d δ N := fun G H σ v s p Q q => q _ _ h (s.setDat i p) (List.length_set) fun j hj => List.getElem?_set_ne (fun (e : i = j) => hj (e ▸ hi))
theorem wgs_nil (h : N δ) : WGs M is gNil [] δ N := fun G H σ vs s p Q q => by
  cases p
  exact ⟨rfl, q δ σ h s rfl fun _ _ => rfl⟩
theorem wgs_cons {t : TG} {u : TGs} {d : D} {ds : List D} (h : WG M is t d δ (fun δ' => WGs M is u ds δ' N)) : WGs M is (gCons t u) (d :: ds) δ N := fun G H σ vs s p Q q => by
  cases p with
  | cons p1 p2 =>
    exact ⟨_, _, rfl, h G H σ _ s p1 _ fun δ1 σ1 h1 s1 l1 e1 => h1 G H σ1 _ s1 p2 Q fun δ2 σ2 h2 s2 l2 e2 => q δ2 σ2 h2 s2 (l2.trans l1) fun j hj => (e2 j hj).trans (e1 j hj)⟩
theorem wg_tup {K : PySem.W.Frag} {n : Nat} {t : TGs} {ds : List D} (hn : ds.length = n) (h : WGs M is t ds δ N) : WG M is (gTup K n t) (.tuple ds) δ N := fun G H σ v s p Q q => by
  obtain ⟨a, us, rfl, ha, ra⟩ := p.tup_inv
  exact ⟨a, us, rfl, (ha.same s.ok.gh).sq, by rw [ra.length]; exact hn, h G H σ us s ra Q q⟩
end

/-! ### statements -/
section
variable {M : Mx} {δ : List SD} {N : List SD → Prop} {K : Kn} {te tf : TE} {t u : TS}
theorem ss_imp {N' : List SD → Prop} (h : SS M t δ N' K) (k : ∀ δ', N' δ' → N δ') : SS M t δ N K := fun G H σ s Dn nx bk ct rt => h G H σ s Dn (fun δ' G' H' σ' n => nx δ' G' H' σ' (k δ' n)) bk ct rt
theorem ss_next (h : N δ) : SS M tNext δ N K := fun G H σ s Dn nx bk ct rt => nx δ G H σ h (Same.refl G) s
theorem ss_seq (h : SS M t δ (fun δ' => SS M u δ' N K) K) : SS M (tSeq t u) δ N K := fun G H σ s Dn nx bk ct rt =>
  h G H σ s { Dn with nx := u Dn } (fun δ' G' H' σ' n e s' => n G' H' σ' s' Dn (fun δ2 G2 H2 σ2 n2 e2 => nx δ2 G2 H2 σ2 n2 (e.trans e2)) (fun δ2 G2 H2 σ2 n2 e2 => bk δ2 G2 H2 σ2 n2 (e.trans e2)) (fun δ2 G2 H2 σ2 n2 e2 => ct δ2 G2 H2 σ2 n2 (e.trans e2)) fun d v G2 H2 r e2 => rt d v G2 H2 r (e.trans e2)) bk ct rt
theorem ss_ret (h : WE M te δ K.rt) : SS M (tRet te) δ N K := fun G H σ s Dn nx bk ct rt => h G H σ s _ fun d v G1 H1 r st ok p => rt d v G1 H1 r st.gg ok (s.st.trans st) p
theorem ss_brk (h : K.bk δ) : SS M tBreak δ N K := fun G H σ s Dn nx bk ct rt => bk δ G H σ h (Same.refl G) s
theorem ss_cont (h : K.ct δ) : SS M tCont δ N K := fun G H σ s Dn nx bk ct rt => ct δ G H σ h (Same.refl G) s
theorem ss_frz {i : Nat} {xs : List D} (hi : δ[i]? = some (.own xs)) (h : SS M t (δ.set i (.dat (.list xs))) N K) : SS M t δ N K := fun G H σ s Dn nx bk ct rt => by
  obtain ⟨G1, e, s1⟩ := s.freeze hi
  exact h G1 H σ s1 Dn (fun δ2 G2 H2 σ2 n2 e2 => nx δ2 G2 H2 σ2 n2 (e.trans e2)) (fun δ2 G2 H2 σ2 n2 e2 => bk δ2 G2 H2 σ2 n2 (e.trans e2)) (fun δ2 G2 H2 σ2 n2 e2 => ct δ2 G2 H2 σ2 n2 (e.trans e2)) fun d v G2 H2 r e2 => rt d v G2 H2 r (e.trans e2)
theorem ss_if {c : TT} (h : WT M c δ (fun b => (b = true → SS M t δ N K) ∧ (b = false → SS M u δ N K))) : SS M (tIfS c t u) δ N K := fun G H σ s Dn nx bk ct rt =>
  h G H σ s _ fun b G1 H1 r st ok => by
    have e := st.gg
    cases b with
    | true =>
      rw [if_pos rfl]
      exact r.1 rfl G1 H1 σ (s.step st ok) Dn (fun δ2 G2 H2 σ2 n2 e2 => nx δ2 G2 H2 σ2 n2 (e.trans e2)) (fun δ2 G2 H2 σ2 n2 e2 => bk δ2 G2 H2 σ2 n2 (e.trans e2)) (fun δ2 G2 H2 σ2 n2 e2 => ct δ2 G2 H2 σ2 n2 (e.trans e2)) fun d v G2 H2 r e2 => rt d v G2 H2 r (e.trans e2)
    | false =>
      rw [if_neg (by decide)]
      exact r.2 rfl G1 H1 σ (s.step st ok) Dn (fun δ2 G2 H2 σ2 n2 e2 => nx δ2 G2 H2 σ2 n2 (e.trans e2)) (fun δ2 G2 H2 σ2 n2 e2 => bk δ2 G2 H2 σ2 n2 (e.trans e2)) (fun δ2 G2 H2 σ2 n2 e2 => ct δ2 G2 H2 σ2 n2 (e.trans e2)) fun d v G2 H2 r e2 => rt d v G2 H2 r (e.trans e2)
/-- name = data -/
theorem ss_set {i : Nat} (h : WE M te δ (fun d => N (δ.set i (.dat d)))) : SS M (tAsg te (gName i)) δ N K := fun G H σ s Dn nx bk ct rt =>
  h G H σ s _ fun d v G1 H1 r st ok p => nx _ G1 H1 _ r st.gg ((s.step st ok).setDat i p)
/-- name = a new list of one's own -/
theorem ss_setL {i : Nat} (h : WL M te δ (fun ds => N (δ.set i (.own ds)))) : SS M (tAsg te (gName i)) δ N K := fun G H σ s Dn nx bk ct rt =>
  h G H σ s _ fun ds p vs G1 H1 r st ok hp hg hh ra => nx _ G1 H1 _ r st.gg ((s.step st ok).setOwn i hh hg (s.fresh hp) (s.ok.notB hp) ra (s.nowhere hp))
/-- a, b = data -/
theorem ss_asg {is : List Nat} {g : TG} (h : WE M te δ (fun d => WG M is g d δ N)) : SS M (tAsg te g) δ N K := fun G H σ s Dn nx bk ct rt =>
  h G H σ s _ fun d v G1 H1 r st ok p => r G1 H1 σ v (s.step st ok) p _ fun δ' σ' n s' _ _ => nx δ' G1 H1 σ' n st.gg s'
/-- a, b = x, y by names: the parts may be lists of one's own -/
theorem ss_par {i j : Nat} {ta : TA} (hi : i < δ.length) (hj : j < δ.length) (hij : i ≠ j) (h : WS M ta δ (fun es => ∃ x y, es = [x, y] ∧ N ((δ.set i x).set j y))) : SS M (tPar i j ta) δ N K := fun G H σ s Dn nx bk ct rt =>
  h G H σ [] [] (by simpa using s) s.len _ fun es vs G1 H1 r e s1 hv => by
    obtain ⟨x, y, rfl, n⟩ := r
    match vs, hv with
    | [v, w], _ =>
      refine ⟨v, w, rfl, nx _ G1 H1 _ n e ?_⟩
      have s2 : SR M G1 H1 (σ ++ some v :: [some w]) (δ ++ x :: [y]) := by simpa using s1
      have s3 := s2.pull s.len i hi
      have s4 := SR.pull (τ := []) (ε := []) s3 (by rw [List.length_set, List.length_set]; exact s.len) j (by rw [List.length_set]; exact hj)
      simpa using s4
/-- setting several slots -/
def setAll (δ : List SD) : List Nat → List SD → List SD
  | i :: is, x :: xs => setAll (δ.set i x) is xs
  | _, _ => δ
def gNames : List Nat → TGs
  | [] => gNil
  | i :: is => gCons (gName i) (gNames is)
theorem pulls : ∀ (is : List Nat) (δ : List SD) (σ : St) (es : List SD) (vs : List V) (G H : Hp), SR M G H (σ ++ vs.map some) (δ ++ es) → σ.length = δ.length → vs.length = es.length → es.length = is.length → (∀ i ∈ is, i < δ.length) →
    ∀ Q : St → Hp → Prop, (∀ σ', SR M G H σ' (setAll δ is es) → Q σ' H) → gNames is vs σ H Q
  | [], δ, σ, es, vs, G, H, s, hl, h1, h2, hi, Q, q => by
    have e1 : es = [] := List.eq_nil_of_length_eq_zero h2
    subst e1
    have e2 : vs = [] := List.eq_nil_of_length_eq_zero h1
    subst e2
    exact ⟨rfl, q σ (by simpa [setAll] using s)⟩
  | i :: is, δ, σ, es, vs, G, H, s, hl, h1, h2, hi, Q, q => by
    match es, vs, h1, h2 with
    | x :: es, v :: vs, h1, h2 =>
      refine ⟨v, vs, rfl, ?_⟩
      have s1 : SR M G H (σ ++ some v :: vs.map some) (δ ++ x :: es) := s
      have s2 := s1.pull hl i (hi i (.head _))
      exact pulls is (δ.set i x) (σ.set i (some v)) es vs G H s2 (by rw [List.length_set, List.length_set]; exact hl) (Nat.succ.inj h1) (Nat.succ.inj h2) (fun k hk => by rw [List.length_set]; exact hi k (.tail _ hk)) Q q
/-- (a, b, ..) = (x, y, ..) by a tuple, the parts may be lists of one's own -/
theorem ss_tup {K0 : PySem.W.Frag} {ta : TA} {n : Nat} {is : List Nat} (hn : is.length = n) (hz : n ≤ sizeLine) (hi : ∀ i ∈ is, i < δ.length) (h : WS M ta δ (fun es => es.length = n ∧ N (setAll δ is es))) : SS M (tAsg (tTupF ta) (gTup K0 n (gNames is))) δ N K := fun G H σ s Dn nx bk ct rt =>
  h G H σ [] [] (by simpa using s) s.len _ fun es vs G1 H1 ⟨hl, r⟩ e s1 hv => by
    refine ⟨by rw [hv, hl]; exact hz, fun a o ho ha => ⟨a, vs, rfl, .inl (.inr ⟨o, upd_same⟩), hv.trans hl, ?_⟩⟩
    obtain ⟨st2, ok2⟩ := Stp.newH s1.ok (.frz o (.tup vs)) ha
    have s2 : SR M G1 (upd H1 a (.frz o (.tup vs))) (σ ++ vs.map some) (δ ++ es) := by simpa using s1.step st2 ok2
    exact pulls is δ σ es vs G1 _ s2 s.len hv (hl.trans hn.symm) hi _ fun σ' s3 => nx _ G1 _ σ' r e s3
/-- xs.append(e) -/
theorem ss_append {K0 : PySem.W.Frag} {i : Nat} {xs : List D} (hi : δ[i]? = some (.own xs)) (h : WE M te δ (fun d => xs.length < sizeLine ∧ N (δ.set i (.own (xs ++ [d]))))) : SS M (tDrop (tBM K0 "list" rAppend (tVar i) (tCons te tNil))) δ N K := fun G H σ s Dn nx bk ct rt => by
  obtain ⟨l, vs, e, h1, h2, h3, h4, ra⟩ := s.sl i _ hi
  refine ⟨.ref l, e, .inl ⟨rfl, vs, SqL.of h1⟩, h G H σ s _ fun d v G1 H1 r st ok p => ?_⟩
  have q := ra.length
  exact ⟨l, vs, v, rfl, rfl, st.hh _ _ h4 h1, by rw [q]; exact r.1, nx _ G1 _ σ r.2 st.gg ((s.step st ok).write hi e ((RpA.mono st.gg _ _ ra).append (.cons p .nil)))⟩
/-- xs.extend(e) -/
theorem ss_extend {K0 : PySem.W.Frag} {i : Nat} {xs : List D} (hi : δ[i]? = some (.own xs)) (h : WE M te δ (fun d => ∃ ys, d = .list ys ∧ xs.length + ys.length ≤ sizeLine ∧ N (δ.set i (.own (xs ++ ys))))) : SS M (tDrop (tBM K0 "list" rExtend (tVar i) (tCons te tNil))) δ N K := fun G H σ s Dn nx bk ct rt => by
  obtain ⟨l, vs, e, h1, h2, h3, h4, ra⟩ := s.sl i _ hi
  refine ⟨.ref l, e, .inl ⟨rfl, vs, SqL.of h1⟩, h G H σ s _ fun d v G1 H1 r st ok p => ?_⟩
  obtain ⟨ys, rfl, hz, n⟩ := r
  obtain ⟨b, ws, rfl, hb, rb⟩ := p.lst_inv
  refine ⟨l, b, vs, ws, rfl, rfl, st.hh _ _ h4 h1, ok.gh _ _ hb, by rw [ra.length, rb.length]; exact hz, nx _ G1 _ σ n st.gg ((s.step st ok).write hi e ((RpA.mono st.gg _ _ ra).append rb))⟩
/-- xs.insert(k, e) -/
def rInsert : V → List V → Hp → VK → Prop := fun x vs H Q => ∃ (l : Addr) (xs : List V) (i : Int) (y : V), x = .ref l ∧ vs = [.int i, y] ∧ H l = some (.lst xs) ∧ xs.length < sizeLine ∧ 0 ≤ i ∧ i < 2 ^ 63 ∧ Q .non (upd H l (.lst (xs.take i.toNat ++ [y] ++ xs.drop i.toNat)))
theorem ss_insert {K0 : PySem.W.Frag} {i : Nat} {xs : List D} (hi : δ[i]? = some (.own xs)) (h : WE M tf δ (fun k => WE M te δ (fun d => ∃ j : Int, k = .int j ∧ xs.length < sizeLine ∧ 0 ≤ j ∧ j < 2 ^ 63 ∧ N (δ.set i (.own (xs.take j.toNat ++ [d] ++ xs.drop j.toNat)))))) :
    SS M (tDrop (tBM K0 "list" rInsert (tVar i) (tCons tf (tCons te tNil)))) δ N K := fun G H σ s Dn nx bk ct rt => by
  obtain ⟨l, vs, e, h1, h2, h3, h4, ra⟩ := s.sl i _ hi
  refine ⟨.ref l, e, .inl ⟨rfl, vs, SqL.of h1⟩, h G H σ s _ fun k w G1 H1 r1 st1 ok1 p1 => r1 G1 H1 σ (s.step st1 ok1) _ fun d v G2 H2 r st ok p => ?_⟩
  obtain ⟨j, rfl, hz, j0, j1, n⟩ := r
  have ra1 := RpA.mono (st1.gg.trans st.gg) _ _ ra
  exact ⟨l, vs, j, v, rfl, by rw [p1.int_inv], st.hh _ _ h4 (st1.hh _ _ h4 h1), by rw [ra.length]; exact hz, j0, j1, nx _ G2 _ σ n (st1.gg.trans st.gg) (((s.step st1 ok1).step st ok).write hi e (((ra1.take _).append (.cons p .nil)).append (ra1.drop _)))⟩
theorem ixN_nat {n j : Nat} (hj : j < n) : ixN n (j : Int) = some j := by
  unfold ixN
  rw [if_pos (by omega), if_pos (by omega)]
  simp
/-- xs[k] = e -/
theorem ss_item {i : Nat} {xs : List D} {ti : TE} (hi : δ[i]? = some (.own xs)) (h : WE M te δ (fun d => WE M ti δ (fun k => ∃ j : Nat, k = .int (j : Int) ∧ j < xs.length ∧ N (δ.set i (.own (xs.set j d)))))) : SS M (tAsg te (gSub (tVar i) ti rSetL)) δ N K := fun G H σ s Dn nx bk ct rt => by
  obtain ⟨l, vs, e, h1, h2, h3, h4, ra⟩ := s.sl i _ hi
  refine h G H σ s _ fun d v G1 H1 r1 st1 ok1 p1 => ⟨.ref l, e, r1 G1 H1 σ (s.step st1 ok1) _ fun k w G2 H2 r st ok p => ?_⟩
  obtain ⟨j, rfl, hj, n⟩ := r
  exact ⟨l, vs, j, j, rfl, p.int_inv, st.hh _ _ h4 (st1.hh _ _ h4 h1), ixN_nat (by rw [ra.length]; exact hj), nx _ G2 _ σ n (st1.gg.trans st.gg) (((s.step st1 ok1).step st ok).write hi e (RpA.set (p1.mono st.gg) j (RpA.mono (st1.gg.trans st.gg) _ _ ra)))⟩
/-- name op= e, ints -/
theorem ss_aug {i : Nat} {a : Int} {f : Int → Int → Int} (hi : δ[i]? = some (.dat (.int a))) (h : WE M te δ (fun d => ∃ b, d = .int b ∧ N (δ.set i (.dat (.int (f a b)))))) : SS M (tAug i te (ipI f)) δ N K := fun G H σ s Dn nx bk ct rt => by
  obtain ⟨v, e, p⟩ := s.sl i _ hi
  refine ⟨v, e, h G H σ s _ fun d w G1 H1 ⟨b, e2, n⟩ st ok p2 => ⟨a, b, p.int_inv, by rw [e2] at p2; exact p2.int_inv, nx _ G1 H1 _ n st.gg ((s.step st ok).setDat i (.int _))⟩⟩
/-- xs[k] op= e, ints -/
def rGetL : V → V → Hp → VK → Prop := fun o i H Q => ∃ (p : Addr) (xs : List V) (k : Nat) (v : V), o = .ref p ∧ i = .int (k : Int) ∧ H p = some (.lst xs) ∧ xs[k]? = some v ∧ Q v H
theorem ss_augItem {i : Nat} {xs : List D} {ti : TE} {f : Int → Int → Int} (hi : δ[i]? = some (.own xs)) (h : WE M ti δ (fun k => ∃ (j : Nat) (a : Int), k = .int (j : Int) ∧ xs[j]? = some (.int a) ∧ WE M te δ (fun d => ∃ b, d = .int b ∧ N (δ.set i (.own (xs.set j (.int (f a b)))))))) :
    SS M (tAugS (tVar i) ti te rGetL (ipI f) rSetL) δ N K := fun G H σ s Dn nx bk ct rt => by
  obtain ⟨l, vs, e, h1, h2, h3, h4, ra⟩ := s.sl i _ hi
  refine ⟨.ref l, e, h G H σ s _ fun k w G1 H1 ⟨j, a, ek, ea, r1⟩ st1 ok1 p1 => ?_⟩
  subst ek
  obtain ⟨va, ev, pa⟩ := ra.get ea
  cases pa
  refine ⟨l, vs, j, .int a, rfl, p1.int_inv, st1.hh _ _ h4 h1, ev, r1 G1 H1 σ (s.step st1 ok1) _ fun d v G2 H2 ⟨b, eb, n⟩ st ok p => ?_⟩
  subst eb
  refine ⟨a, b, rfl, p.int_inv, l, vs, j, j, rfl, p1.int_inv, st.hh _ _ h4 (st1.hh _ _ h4 h1), ixN_nat ?_, nx _ G2 _ σ n (st1.gg.trans st.gg) (((s.step st1 ok1).step st ok).write hi e (RpA.set (.int _) j (RpA.mono (st1.gg.trans st.gg) _ _ ra)))⟩
  exact (List.getElem?_eq_some_iff.mp ev).1

/-! ### loops -/
theorem ss_for {wi : TI} {g : TG} {tb : TS} (is : List Nat) (h : WI M wi δ (fun xs => ∃ Pv : Nat → List SD → Prop, Pv 0 δ ∧ (∀ i d δ', xs[i]? = some d → Pv i δ' → WG M is g d δ' (fun δ2 => SS M tb δ2 (Pv (i + 1)) ⟨K.rt, N, Pv (i + 1)⟩)) ∧ ∀ δ', Pv xs.length δ' → N δ')) :
    SS M (tFor wi g tb) δ N K := fun G H σ s Dn nx bk ct rt => by
  refine h G H σ s _ fun xs J G1 H1 ⟨Pv, h0, hs, hd⟩ st ok j => ?_
  refine ⟨fun i m σ' H' => m = xs.length - i ∧ i ≤ xs.length ∧ ∃ δ' G', Pv i δ' ∧ Same G1 G' ∧ SR M G' H' σ' δ', ⟨xs.length, by simp, Nat.zero_le _, δ, G1, h0, Same.refl _, s.step st ok⟩, ?_⟩
  rintro i m σ' H' ⟨rfl, hi, δ', G', p, e, s'⟩
  obtain ⟨j1, j2, j3⟩ := j G' H' e s'.ok
  by_cases hlt : i < xs.length
  · refine .inr ⟨j1 i hlt, fun σ2 H2 => ∃ δ2 G2, Pv (i + 1) δ2 ∧ Same G1 G2 ∧ SR M G2 H2 σ2 δ2, fun σ2 H2 ⟨δ2, G2, p2, e2, s2⟩ => ⟨xs.length - (i + 1), by omega, rfl, hlt, δ2, G2, p2, e2, s2⟩, fun x H2 y => ?_⟩
    obtain ⟨G2, d, st2, ok2, ed, px⟩ := j3 i x H2 hlt y
    refine hs i d δ' ed p G2 H2 σ' x (s'.step st2 ok2) px _ fun δ3 σ3 n3 s3 _ _ => ?_
    have e3 : Same G1 G2 := e.trans st2.gg
    exact n3 G2 H2 σ3 s3 { Dn with nx := _, ct := _, bk := Dn.nx } (fun δ4 G4 H4 σ4 n4 e4 s4 => ⟨δ4, G4, n4, e3.trans e4, s4⟩) (fun δ4 G4 H4 σ4 n4 e4 s4 => nx δ4 G4 H4 σ4 n4 (st.gg.trans (e3.trans e4)) s4) (fun δ4 G4 H4 σ4 n4 e4 s4 => ⟨δ4, G4, n4, e3.trans e4, s4⟩)
      fun d v G4 H4 r e4 => rt d v G4 H4 r (st.gg.trans (e3.trans e4))
  · have ei : i = xs.length := by omega
    subst ei
    exact .inl ⟨j2, nx δ' G' H' σ' (hd δ' p) (st.gg.trans e) s'⟩
theorem ss_while {c : TT} {tb : TS} (Pv : Nat → List SD → Prop) (n0 : Nat) (h0 : Pv n0 δ) (hs : ∀ m δ', Pv m δ' → WT M c δ' (fun b => (b = true → SS M tb δ' (fun δ2 => ∃ m', m' < m ∧ Pv m' δ2) ⟨K.rt, N, fun δ2 => ∃ m', m' < m ∧ Pv m' δ2⟩) ∧ (b = false → N δ'))) : SS M (tWhile c tb) δ N K := fun G H σ s Dn nx bk ct rt => by
  refine ⟨fun m σ' H' => ∃ δ' G', Pv m δ' ∧ Same G G' ∧ SR M G' H' σ' δ', ⟨n0, δ, G, h0, Same.refl _, s⟩, ?_⟩
  rintro m σ' H' ⟨δ', G', p, e, s'⟩
  refine hs m δ' p G' H' σ' s' _ fun b G1 H1 r st ok => ?_
  have e1 : Same G G1 := e.trans st.gg
  cases b with
  | true =>
    rw [if_pos rfl]
    refine ⟨fun σ2 H2 => ∃ m', m' < m ∧ ∃ δ2 G2, Pv m' δ2 ∧ Same G G2 ∧ SR M G2 H2 σ2 δ2, fun σ2 H2 ⟨m', l, q⟩ => ⟨m', l, q⟩, ?_⟩
    exact r.1 rfl G1 H1 σ' (s'.step st ok) { Dn with nx := _, ct := _, bk := Dn.nx } (fun δ4 G4 H4 σ4 ⟨m', l, n4⟩ e4 s4 => ⟨m', l, δ4, G4, n4, e1.trans e4, s4⟩) (fun δ4 G4 H4 σ4 n4 e4 s4 => nx δ4 G4 H4 σ4 n4 (e1.trans e4) s4) (fun δ4 G4 H4 σ4 ⟨m', l, n4⟩ e4 s4 => ⟨m', l, δ4, G4, n4, e1.trans e4, s4⟩)
      fun d v G4 H4 r e4 => rt d v G4 H4 r (e1.trans e4)
  | false =>
    rw [if_neg (by decide)]
    exact nx δ' G1 H1 σ' (r.2 rfl) e1 (s'.step st ok)

/-! ### comprehensions -/
def wipeD (δ : List SD) : List Nat → List SD
  | [] => δ
  | v :: vs => (wipeD δ vs).set v .no
theorem SR.wipe {G H : Hp} {σ : St} (s : SR M G H σ δ) : ∀ vs : List Nat, SR M G H (L2.wipe σ vs) (wipeD δ vs)
  | [] => s
  | v :: vs => (SR.wipe s vs).forget v none
theorem wipe_get (σ : St) : ∀ (vs : List Nat) (j : Nat), j ∉ vs → (L2.wipe σ vs)[j]? = σ[j]?
  | [], j, _ => rfl
  | v :: vs, j, h => by
    unfold L2.wipe
    rw [List.getElem?_set_ne (fun (e : v = j) => h (by rw [e]; exact .head _))]
    exact wipe_get σ vs j fun z => h (.tail _ z)
theorem wipe_in (σ : St) : ∀ (vs : List Nat) (j : Nat), j ∈ vs → (L2.wipe σ vs)[j]? = if j < σ.length then some none else none
  | [], j, h => nomatch h
  | v :: vs, j, h => by
    unfold L2.wipe
    by_cases e : v = j
    · subst e
      by_cases hj : v < σ.length
      · rw [List.getElem?_set_self (by rw [L2.wipe_length]; exact hj), if_pos hj]
      · rw [List.getElem?_eq_none (by rw [List.length_set, L2.wipe_length]; omega), if_neg hj]
    · rw [List.getElem?_set_ne e]
      exact wipe_in σ vs j ((List.mem_cons.mp h).resolve_left fun z => e z.symm)
theorem wipe_of {σ τ : St} (vs : List Nat) (hl : τ.length = σ.length) (h : ∀ j, j ∉ vs → τ[j]? = (L2.wipe σ vs)[j]?) : L2.wipe τ vs = L2.wipe σ vs := by
  refine List.ext_getElem? fun j => ?_
  by_cases e : j ∈ vs
  · rw [wipe_in τ vs j e, wipe_in σ vs j e, hl]
  · rw [wipe_get τ vs j e]
    exact h j e
theorem wj_of {wi : TI} {R : List D → Prop} (h : WI M wi δ R) : WJ M wi δ R := fun G H σ s Q q => h G H σ s Q fun xs J G' H' r st ok j => q xs J G' H' r st ok fun G1 H1 st1 ok1 => j G1 H1 st1.gg ok1
theorem wl_lc {wi : TI} {g : TG} {tt : TT} {vs : List Nat} {R : List D → Prop} (h : WJ M wi δ (fun xs => xs.length < sizeLine ∧ ∃ Pv : Nat → List D → Prop, Pv 0 [] ∧ (∀ i d acc, xs[i]? = some d → acc.length ≤ i → Pv i acc →
    WG M vs g d (wipeD δ vs) (fun δ2 => WT M tt δ2 (fun b => (b = true → WE M te δ2 (fun y => Pv (i + 1) (acc ++ [y]))) ∧ (b = false → Pv (i + 1) acc)))) ∧ ∀ acc, Pv xs.length acc → R acc)) : WL M (tLc wi g tt te vs) δ R := fun G H σ s Q q => by
  refine h G H σ s _ fun xs J G1 H1 ⟨hz, Pv, h0, hs, hd⟩ st ok j D hD => ?_
  have sw := (s.step st ok).wipe vs
  have hD0 : H D = none := by
    cases e : H D with
    | none => rfl
    | some o => exact absurd hD (st.th D (ne_none e))
  have nD : NotB M.B D := ok.notB hD
  refine ⟨fun i m H' => m = xs.length - i ∧ i ≤ xs.length ∧ ∃ G' ws acc, Pv i acc ∧ acc.length ≤ i ∧ Stp M.B G1 H1 G' H' ∧ Ok M.B G' H' ∧ H' D = some (.lst ws) ∧ G' D = none ∧ RpA G' ws acc, ?_, ?_⟩
  · obtain ⟨st2, ok2⟩ := Stp.newH ok (.lst []) hD
    exact ⟨xs.length, by simp, Nat.zero_le _, G1, [], [], h0, Nat.le_refl _, st2, ok2, upd_same, ok.free hD, .nil⟩
  rintro i m H' ⟨rfl, hi, G', ws, acc, p, hl, st', ok', hw, hg, ra⟩
  obtain ⟨j1, j2, j3⟩ := j G' H' st' ok'
  by_cases hlt : i < xs.length
  · refine .inr ⟨j1 i hlt, fun H2 => ∃ G2 ws acc, Pv (i + 1) acc ∧ acc.length ≤ i + 1 ∧ Stp M.B G1 H1 G2 H2 ∧ Ok M.B G2 H2 ∧ H2 D = some (.lst ws) ∧ G2 D = none ∧ RpA G2 ws acc, fun H2 ⟨G2, ws, acc, z⟩ => ⟨xs.length - (i + 1), by omega, rfl, hlt, G2, ws, acc, z⟩, fun x H2 y => ?_⟩
    obtain ⟨G2, d, st2, ok2, ed, px⟩ := j3 i x H2 hlt y
    have s2 := (sw.step st' ok').step st2 ok2
    refine hs i d acc ed hl p G2 H2 _ x s2 px _ fun δ3 σ3 n3 s3 l3 e3 => ?_
    refine ⟨?_, ?_⟩
    · exact wipe_of vs (by rw [l3, L2.wipe_length]) e3
    · refine n3 G2 H2 σ3 s3 _ fun b G3 H3 rb st3 ok3 => ?_
      cases b with
      | true =>
        rw [if_pos rfl]
        refine rb.1 rfl G3 H3 σ3 (s3.step st3 ok3) _ fun y v G4 H4 r4 st4 ok4 p4 => ?_
        have h4 : H4 D = some (.lst ws) := st4.hh _ _ nD (st3.hh _ _ nD (st2.hh _ _ nD hw))
        have g2 : G2 D = none := st2.fr D (ne_none hw) hg
        have g3 : G3 D = none := st3.fr D (ne_none (st2.hh _ _ nD hw)) g2
        have g4 : G4 D = none := st4.fr D (ne_none (st3.hh _ _ nD (st2.hh _ _ nD hw))) g3
        have gg : Same G' G4 := st2.gg.trans (st3.gg.trans st4.gg)
        have stt : Stp M.B G1 H1 G4 H4 := st'.trans (st2.trans (st3.trans st4))
        have hlen := ra.length
        refine ⟨ws, h4, by omega, G4, ws ++ [v], acc ++ [y], r4, by simp; exact hl, ?_, ?_, upd_same, g4, (RpA.mono gg _ _ ra).append (.cons p4 .nil)⟩
        · refine ⟨stt.gg, fun a o n e => ?_, stt.fr, fun a e => ?_⟩
          · rw [upd_ne (ne_of_none e hD)]
            exact stt.hh a o n e
          · by_cases z : a = D
            · rw [z, upd_same]; exact fun z => nomatch z
            · rw [upd_ne z]; exact stt.th a e
        · refine ⟨fun a u e => ?_, fun b c hb => ?_, fun P q hp => ?_⟩
          · rw [upd_ne (fun z => by rw [z, g4] at e; cases e)]
            exact ok4.gh a u e
          · obtain ⟨k1, k2, x, y, w, ns, q1, q2, q3⟩ := ok4.bag b c hb
            obtain ⟨u, hu⟩ := some_of k2
            exact ⟨k1, k2, x, y, w, ns, by rw [upd_ne (nD.1 (b, c) hb).symm]; exact q1, by rw [upd_ne (fun z => by rw [z, g4] at hu; cases hu)]; exact q2, q3⟩
          · obtain ⟨k1, ps, q1, q2, q3⟩ := ok4.tab P q hp
            refine ⟨k1, ps, by rw [upd_ne (nD.2 (P, q) hp).symm]; exact q1, q2, fun pos cv hc => ?_⟩
            obtain ⟨c, e1, e2⟩ := q3 pos cv hc
            exact ⟨c, e1, by rw [upd_ne (ne_of e2 h4 (fun z => nomatch z))]; exact e2⟩
      | false =>
        rw [if_neg (by decide)]
        have h3 : H3 D = some (.lst ws) := st3.hh _ _ nD (st2.hh _ _ nD hw)
        have g2 : G2 D = none := st2.fr D (ne_none hw) hg
        have g3 : G3 D = none := st3.fr D (ne_none (st2.hh _ _ nD hw)) g2
        exact ⟨G3, ws, acc, rb.2 rfl, by omega, st'.trans (st2.trans st3), ok3, h3, g3, RpA.mono (st2.gg.trans st3.gg) _ _ ra⟩
  · have ei : i = xs.length := by omega
    subst ei
    exact .inl ⟨j2, q acc D ws G' H' (hd acc p) (st.trans st') ok' hD0 hg hw ra⟩
end

/-! ### what is walked -/
section
variable {M : Mx} {δ : List SD} {R : List D → Prop} {te : TE}
theorem jr_list {B : Bg} {K : PySem.W.Frag} {G : Hp} {a : Addr} {us : List V} {xs : List D} (h : G a = some (.lst us)) (r : RpA G us xs) : JR B G (Itl K a) xs := fun G1 H1 e ok => by
  have sq : SqL K H1 a us := SqL.of (ok.gh _ _ (e _ _ h))
  have hl := r.length
  refine ⟨fun i hi => ⟨us, us[i], sq, by simp⟩, ⟨us, sq, by omega⟩, fun i x H2 hi y => ?_⟩
  obtain ⟨e2, y⟩ := y
  subst e2
  obtain ⟨d, ed, p⟩ := (RpA.mono e _ _ r).getV (y us sq)
  exact ⟨G1, d, Stp.refl _ _ _, ok, ed, p⟩
theorem jr_tup {B : Bg} {K : PySem.W.Frag} {G : Hp} {a : Addr} {us : List V} {xs : List D} (h : TupAt G a us) (r : RpA G us xs) : JR B G (Itt K a) xs := fun G1 H1 e ok => by
  have sq : SqT K H1 a us := ((h.same e).same ok.gh).sq
  have hl := r.length
  refine ⟨fun i hi => ⟨us, us[i], sq, by simp⟩, ⟨us, sq, by omega⟩, fun i x H2 hi y => ?_⟩
  obtain ⟨e2, y⟩ := y
  subst e2
  obtain ⟨d, ed, p⟩ := (RpA.mono e _ _ r).getV (y us sq)
  exact ⟨G1, d, Stp.refl _ _ _, ok, ed, p⟩
def rgD (lo : Int) (n : Nat) : List D := (List.range n).map fun i => PyData.int (lo + (i : Nat))
theorem rgD_get {lo : Int} {n i : Nat} (h : i < n) : (rgD lo n)[i]? = some (.int (lo + (i : Nat))) := by
  unfold rgD
  rw [List.getElem?_map, List.getElem?_range h]
  rfl
theorem rgD_len {lo : Int} {n : Nat} : (rgD lo n).length = n := by unfold rgD; simp
theorem jr_rng {B : Bg} {G : Hp} {lo : Int} {n : Nat} : JR B G (Itr lo n) (rgD lo n) := fun G1 H1 e ok => by
  refine ⟨fun i hi => by rw [rgD_len] at hi; exact hi, by rw [rgD_len]; exact Nat.le_refl _, fun i x H2 hi y => ?_⟩
  obtain ⟨e2, e3⟩ := y
  subst e2
  subst e3
  rw [rgD_len] at hi
  exact ⟨G1, _, Stp.refl _ _ _, ok, rgD_get hi, .int _⟩
/-- over a list or a tuple -/
def iSeq (K : PySem.W.Frag) (tl : TE) : TI := fun σ H R => tl σ H fun x H1 => ∃ a, x = .ref a ∧ (((∃ xs, SqL K H1 a xs) ∧ R (Itl K a) H1) ∨ ((∃ xs, SqT K H1 a xs) ∧ R (Itt K a) H1))
theorem pi_seq {X : Cx} {tg l : Expr} {tl : TE} (hl : PE X l tl) : PI X tg l (iSeq X.K tl) := by
  refine ⟨fun pins s σ H R I h => ?_⟩
  refine thn (hl.run pins s σ H _ I h) fun v s1 ⟨x, H1, I1, r1, q1⟩ => ?_
  obtain ⟨a, e, ⟨⟨xs, hq⟩, q⟩ | ⟨⟨xs, hq⟩, q⟩⟩ := q1
  · subst e
    cases r1
    obtain ⟨its, rv, p, hz⟩ := I1.list hq
    refine wpAny_pyIter_list p.isList ?_
    refine ⟨s1.heap.objs.size, [s1.heap.objs.size], _, _, H1, rfl, I1.kept (t' := s1.toks) fun b o e => Heap.get?_push_of_some _ e, turn_list a _, ⟨_, Heap.get?_push_size _ rfl, rfl, rfl⟩, fun b hb => ?_, q⟩
    have e : b = s1.heap.objs.size := by simpa using hb
    subst e
    exact I1.fpOk (Nat.le_refl _) (I1.hok.fresh (Nat.le_refl _))
  · subst e
    cases r1
    obtain ⟨its, rv, p, hz⟩ := I1.tuple hq
    refine wpAny_pyIter_tuple (show s1.heap.IsTuple a its.toArray from p) ?_
    refine ⟨s1.heap.objs.size, [s1.heap.objs.size], _, _, H1, rfl, I1.kept (t' := s1.toks) fun b o e => Heap.get?_push_of_some _ e, turn_tuple a _, ⟨_, Heap.get?_push_size _ rfl, rfl, rfl⟩, fun b hb => ?_, q⟩
    have e : b = s1.heap.objs.size := by simpa using hb
    subst e
    exact I1.fpOk (Nat.le_refl _) (I1.hok.fresh (Nat.le_refl _))
def isSeq (d : D) (R : List D → Prop) : Prop := ∃ xs, (d = .list xs ∨ d = .tuple xs) ∧ R xs
theorem wi_seq {K : PySem.W.Frag} (h : WE M te δ (fun d => isSeq d R)) : WI M (iSeq K te) δ R := fun G H σ s Q q =>
  h G H σ s _ fun d v G1 H1 ⟨xs, e, r⟩ st ok p => by
    rcases e with rfl | rfl
    · obtain ⟨a, us, rfl, ha, ra⟩ := p.lst_inv
      exact ⟨a, rfl, .inl ⟨⟨us, SqL.of (ok.gh _ _ ha)⟩, q xs _ G1 H1 r st ok (jr_list ha ra)⟩⟩
    · obtain ⟨a, us, rfl, ha, ra⟩ := p.tup_inv
      exact ⟨a, rfl, .inr ⟨⟨us, (ha.same ok.gh).sq⟩, q xs _ G1 H1 r st ok (jr_tup ha ra)⟩⟩
theorem wi_rng1 {ta : TA} (h : WA M ta δ (fun ds => ∃ j : Int, ds = [.int j] ∧ (-(2 ^ 62) ≤ j ∧ j < 2 ^ 62) ∧ R (rgD 0 j.toNat))) : WI M (iRng1 ta) δ R := fun G H σ s Q q =>
  h G H σ s _ fun ds vs G1 H1 ⟨j, e, ⟨h1, h2⟩, r⟩ st ok p => by
    subst e
    have e : vs = [V.int j] := RpA.of_ints (ns := [j]) p
    exact ⟨j, e, h1, h2, q _ _ G1 H1 r st ok jr_rng⟩
theorem wi_rng2 {ta : TA} (h : WA M ta δ (fun ds => ∃ i j : Int, ds = [.int i, .int j] ∧ (-(2 ^ 62) ≤ i ∧ i < 2 ^ 62 ∧ -(2 ^ 62) ≤ j ∧ j < 2 ^ 62) ∧ R (rgD i (j - i).toNat))) : WI M (iRng2 ta) δ R := fun G H σ s Q q =>
  h G H σ s _ fun ds vs G1 H1 ⟨i, j, e, hb, r⟩ st ok p => by
    subst e
    have e : vs = [V.int i, V.int j] := RpA.of_ints (ns := [i, j]) p
    exact ⟨i, j, e, hb, q _ _ G1 H1 r st ok jr_rng⟩
end
end FK

/-! FkG: rules of the hand layer that were wanted besides: enumerate and zip over lists and tuples, ... -/
namespace FK
open PySem PySem.Spec PyProof.Rows L2

/-- a list (true) or a tuple (false) stands at a -/
def SrcB (b : Bool) (H : Hp) (a : Addr) (xs : List V) : Prop := if b then H a = some (.lst xs) else TupAt H a xs
theorem SrcB.same {b : Bool} {H H' : Hp} {a : Addr} {xs : List V} (h : SrcB b H a xs) (e : Same H H') : SrcB b H' a xs := by
  cases b with
  | true => exact e _ _ h
  | false => exact TupAt.same h e
theorem SrcB.ne {b : Bool} {H : Hp} {a c : Addr} {xs : List V} (h : SrcB b H a xs) (n : H c = none) : a ≠ c := by
  cases b with
  | true => exact ne_of_none h n
  | false => obtain ⟨u, q⟩ := TupAt.ne h; exact ne_of_none q n
/-- a new tuple laid, its object known -/
theorem laidT {X : Cx} {pins : List (Addr × Obj)} {σ : L2.St} {H : Hp} {s : Shared} {h' : Heap} {a : Addr} {xs : List V} {its : List Value} {o : Obj} {t' : Nat} (I : Inv X pins σ H s) (k : ∀ b u, s.heap.get? b = some u → h'.get? b = some u) (hp : s.heap.objs.size ≤ a)
    (hz : xs.length ≤ sizeLine) (r : Vals xs its) (g : h'.get? a = some o) (hc : o.cls = .type "tuple") (hd : ∃ n, o.data = .seq its.toArray n) : Inv X pins σ (upd H a (.frz o (.tup xs))) { s with heap := h', toks := t' } :=
  I.laid k hp ⟨g, hz, its, r, o, g, hc, hd⟩
def IterB (b : Bool) (h : Heap) (it a : Addr) (i : Nat) : Prop := if b then h.IsListIter it a i else h.IsTupleIter it a i
def ObjB (b : Bool) (h : Heap) (a : Addr) (its : Array Value) : Prop := if b then h.IsList a its else h.IsTuple a its
theorem src_obj {X : Cx} {pins : List (Addr × Obj)} {σ : L2.St} {H : Hp} {s : Shared} {b : Bool} {a : Addr} {xs : List V} (I : Inv X pins σ H s) (h : SrcB b H a xs) : ∃ its : List Value, Vals xs its ∧ ObjB b s.heap a its.toArray := by
  cases b with
  | true =>
    obtain ⟨its, rv, p, hz⟩ := I.list (SqL.of (show H a = some (.lst xs) from h))
    exact ⟨its, rv, p.isList⟩
  | false =>
    obtain ⟨its, rv, p, hz⟩ := I.tuple (TupAt.sq (show TupAt H a xs from h))
    exact ⟨its, rv, p⟩
theorem draws_B {prog : Program} {w : World} {A : Around} (b : Bool) (hh : A.handled = none) (it l : Addr) (hne : l ≠ it) (items : Array Value) :
    Draws prog w A it [it, l] items.size (fun i v => items[i]? = some v) (fun i h => IterB b h it l i ∧ ObjB b h l items) := by
  cases b with
  | true => exact Draws.list hh it l hne items
  | false => exact Draws.tuple hh it l hne items
theorem IterB.get {b : Bool} {h : Heap} {it a : Addr} {i : Nat} (x : IterB b h it a i) : ∃ o, h.get? it = some o ∧ ∀ v, o.data ≠ .cell v := by
  cases b with
  | true => obtain ⟨o, ho, hc, hd⟩ := x; exact ⟨o, ho, fun v q => by rw [hd] at q; cases q⟩
  | false => obtain ⟨o, ho, hc, hd⟩ := x; exact ⟨o, ho, fun v q => by rw [hd] at q; cases q⟩
theorem IterB.at {b : Bool} {h h' : Heap} {it a : Addr} {i : Nat} (x : IterB b h it a i) (k : ∀ o, h.get? it = some o → h'.get? it = some o) : IterB b h' it a i := by
  cases b with
  | true => exact Heap.IsListIter.at x k
  | false => exact Heap.IsTupleIter.at x k
theorem begins_B (b : Bool) (l : Addr) (items : Array Value) : Begins (.ref l) { cls := .type (if b then "list_iterator" else "tuple_iterator"), data := .fields #[.ref l, .int 0 0] } fun h => ObjB b h l items := by
  cases b with
  | true => exact begins_list l items
  | false => exact begins_tuple l items
theorem iterB_new {b : Bool} {h : Heap} {it a : Addr} (e : h.get? it = some { cls := .type (if b then "list_iterator" else "tuple_iterator"), data := .fields #[.ref a, .int 0 0] }) : IterB b h it a 0 := by
  cases b with
  | true => exact ⟨_, e, rfl, rfl⟩
  | false => exact ⟨_, e, rfl, rfl⟩

/-! ### enumerate(v, k), v a list or a tuple that stands still -/
def Iten (b : Bool) (a : Addr) (k : Int) (xs : List V) : It :=
  ⟨fun i H => SrcB b H a xs ∧ i < xs.length, fun i H v H' => ∃ T x o, v = .ref T ∧ H T = none ∧ o.dict = none ∧ H' = upd H T (.frz o (.tup [.int (k + (i : Nat)), x])) ∧ xs[i]? = some x, fun i H => SrcB b H a xs ∧ i = xs.length⟩
theorem turn_enumB {P : Program} {w : World} {K : PySem.W.Frag} {elts : List Expr} {kk : Nat} {tpos : Pos} (b : Bool) (a e it : Addr) (k : Int) (xs : List V) :
    Turn P w K (.Tuple elts kk tpos) (Iten b a k xs) [e, it] e (fun i h => (∃ old, IsEnum h e it (k + (i : Nat)) old) ∧ IterB b h it a i ∧ e ≠ it) where
  mem := by simp
  obj := fun i h st c hc => by
    obtain ⟨⟨old, he⟩, hi, _⟩ := st
    have e' : c = e ∨ c = it := by simpa using hc
    rcases e' with z | z
    · rw [z]; exact ⟨_, he, fun v q => nomatch q⟩
    · rw [z]; exact hi.get
  keep := fun i h h' st q => let ⟨⟨old, he⟩, hi, hne⟩ := st; ⟨⟨old, q e (by simp) _ he⟩, hi.at fun o z => q it (by simp) o z, hne⟩
  item := by
    intro X hP hw hK hc i pins s σ H E I hf st hg
    subst hP hw hK
    obtain ⟨⟨old, he⟩, hit, hne⟩ := st
    obtain ⟨hq, hlt⟩ := hg
    obtain ⟨its, rv, p⟩ := src_obj I hq
    have hl := rv.length
    have hel : e < s.heap.objs.size := Heap.lt_size he
    have hil : it < s.heap.objs.size := by obtain ⟨_, q, _⟩ := hit.get; exact Heap.lt_size q
    have na : a ≠ it := SrcB.ne hq (hf it (by simp)).1
    have nae : a ≠ e := SrcB.ne hq (hf e (by simp)).1
    refine wpAny_pyNext_enum_itemC (draws_B (A := X.A.in1) b (I.ok.hd hc) it a na its.toArray) he (i := i) ⟨hit, p⟩ (by simp; omega) hne (by simp; exact ⟨hne, Ne.symm nae⟩) fun u h' tk hu ho hst' hT hsz hk => ?_
    have hu' : its[i]? = some u := by simpa using hu
    obtain ⟨x, hx, ru⟩ : ∃ x, xs[i]? = some x ∧ RelV x u := by
      have hx : xs[i]? = some xs[i] := List.getElem?_eq_getElem hlt
      obtain ⟨u', e1, r1⟩ := rv.get hx
      rw [hu'] at e1
      cases e1
      exact ⟨_, hx, r1⟩
    refine ⟨_, rfl, wpAny_letOwnedTupleGo_enum (s := { s with heap := h', toks := tk + 1 }) ho fun h'' he' sb => ?_⟩
    have hT2 : h''.get? s.heap.objs.size = some { cls := .type "tuple", data := .seq #[.int (k + (i : Nat)) tk, u] } := (sb.2 _ (Nat.ne_of_gt hel)).trans hT
    have new : ObjOk X.prog X.w (upd H s.heap.objs.size (.frz { cls := .type "tuple", data := .seq #[.int (k + (i : Nat)) tk, u] } (.tup [.int (k + (i : Nat)), x]))) h'' s.heap.objs.size (.frz { cls := .type "tuple", data := .seq #[.int (k + (i : Nat)) tk, u] } (.tup [.int (k + (i : Nat)), x])) :=
      ⟨hT2, by show 2 ≤ sizeLine; decide, [.int (k + (i : Nat)) tk, u], .cons ⟨_, rfl⟩ (.cons ru .nil), ⟨_, hT2, rfl, _, rfl⟩⟩
    have I1 : Inv X pins σ (upd H s.heap.objs.size (.frz { cls := .type "tuple", data := .seq #[.int (k + (i : Nat)) tk, u] } (.tup [.int (k + (i : Nat)), x]))) { s with heap := h'', toks := tk + 1 } :=
      I.turnedNew (ch := [e, it]) (fun c ob hb q => (sb.2 c (fun z => hb (by simp [z]))).trans (hk c ob (fun z => hb (by simp [z])) (fun z => hb (by simp [z])) q)) hf (Nat.le_refl _) new
    refine ⟨.ref s.heap.objs.size, _, I1, rfl, ⟨_, x, _, rfl, I.hok.fresh (Nat.le_refl _), rfl, rfl, hx⟩, ⟨⟨u, ?_⟩, hst'.1.at fun o q => (sb.2 it (Ne.symm hne)).trans q, hne⟩, fun c hb => ?_⟩
    · have e1 : k + ((i + 1 : Nat) : Int) = k + (i : Int) + 1 := by omega
      rw [e1]; exact he'
    · have hb' : c < s.heap.objs.size := by
        have e' : c = e ∨ c = it := by simpa using hb
        rcases e' with z | z
        · rw [z]; exact hel
        · rw [z]; exact hil
      rw [upd_ne (Nat.ne_of_lt hb')]
      exact (hf c hb).1
  done := by
    intro X hP hw hK hc i pins s σ H E I hf st hg
    subst hP hw hK
    obtain ⟨⟨old, he⟩, hit, hne⟩ := st
    obtain ⟨hq, hlt⟩ := hg
    obtain ⟨its, rv, p⟩ := src_obj I hq
    have hl := rv.length
    have na : a ≠ it := SrcB.ne hq (hf it (by simp)).1
    obtain ⟨f0, f1, f2, f3, f4, f5⟩ := hf it (by simp)
    have ei : i = its.toArray.size := by simp; omega
    subst ei
    exact wpAny_pyNext_enum_endD (draws_B (A := X.A.in1) b (I.ok.hd hc) it a na its.toArray) he ⟨hit, p⟩ fun h' eb => ⟨rfl, I.turned (t' := s.toks) (fun c o hb q => eb c o hb q) f0 f1 f3 f4 f5⟩
  self := fun A i s Q E st h => let ⟨⟨_, he⟩, _⟩ := st; wpAny_pyIter_enum he h
/-- enumerate(v); enumerate(v, k) -/
def iEnu1 (ta : TA) : TI := fun σ H R => ta σ H fun vs H1 => ∃ b a xs, vs = [.ref a] ∧ SrcB b H1 a xs ∧ R (Iten b a 0 xs) H1
def iEnu2 (ta : TA) : TI := fun σ H R => ta σ H fun vs H1 => ∃ b a xs k, vs = [.ref a, .int k] ∧ (-(2 ^ 63) ≤ k ∧ k < 2 ^ 63) ∧ SrcB b H1 a xs ∧ R (Iten b a k xs) H1
theorem enu_go {X : Cx} {pins : List (Addr × Obj)} {σ : L2.St} {H : Hp} {s : Shared} {elts : List Expr} {kk : Nat} {tpos : Pos} {R : It → Hp → Prop} {b : Bool} {a : Addr} {xs : List V} {k : Int} (I : Inv X pins σ H s) (hq : SrcB b H a xs) (q : R (Iten b a k xs) H)
    {h' : Heap} (he : IsEnum h' (s.heap.objs.size + 1) s.heap.objs.size k .none) (hit : IterB b h' s.heap.objs.size a 0) (hk : ∀ b o, s.heap.get? b = some o → h'.get? b = some o) :
    wpAny (model X.prog X.w) X.A (pyIter (.ref (s.heap.objs.size + 1))) (PIE X pins σ (.Tuple elts kk tpos) R) X.xe { s with heap := h' } := by
  refine wpAny_pyIter_enum he ?_
  have I2 : Inv X pins σ H { s with heap := h' } := I.kept (t' := s.toks) hk
  refine ⟨s.heap.objs.size + 1, [s.heap.objs.size + 1, s.heap.objs.size], _, _, H, rfl, I2, turn_enumB b a (s.heap.objs.size + 1) s.heap.objs.size k xs, ⟨⟨.none, ?_⟩, hit, Nat.succ_ne_self _⟩, fun c hb => ?_, q⟩
  · have e1 : k + ((0 : Nat) : Int) = k := by omega
    rw [e1]; exact he
  · have e' : c = s.heap.objs.size + 1 ∨ c = s.heap.objs.size := by simpa using hb
    have hle : s.heap.objs.size ≤ c := by
      rcases e' with z | z
      · rw [z]; exact Nat.le_add_right _ _
      · rw [z]; exact Nat.le_refl _
    exact I.fpOk hle (I.hok.fresh hle)
set_option maxHeartbeats 4000000 in
theorem meets_enum1 {v : Value} {o : Obj} {H : Heap → Prop} (B : Begins v o H) :
    Meets (Builtin.«enumerate.__new__» ⟨[.type "enumerate", v], []⟩) (fun _ R s => H s.heap ∧
      R (.ok (.ret (.ref (s.heap.push o).objs.size))) { s with heap := (s.heap.push o).push { cls := .type "enumerate", data := .fields #[.none, .bool false, .ref s.heap.objs.size, rawInt 0, .none, .none] } }) :=
  .of_wp fun prog w A R s h => by
    obtain ⟨hp, g, d, tk, os⟩ := s; obtain ⟨h1, h⟩ := h
    have hsub := sub_enumerate
    have q1 : ∀ {A' : Around} {E : Value → Shared → Prop} {Q : Value → Shared → Prop}, Q (.ref hp.objs.size) ⟨hp.push o, g, d, tk, os⟩ → wpAny (model prog w) A' (pyIter v) Q E ⟨hp, g, d, tk, os⟩ :=
      fun q => B.iter prog w _ _ ⟨hp, g, d, tk, os⟩ _ h1 q
    wp_walk using q1
    refine wpAny_stack_any fun st => wpAny_pure ?_
    split
    · rename_i c _ _ _ _ _
      cases (c == Value.type "enumerate")
      · wp_walk using q1
        exact ⟨_, rfl, h⟩
      · wp_walk using q1
        exact ⟨_, rfl, h⟩
    · wp_walk using q1
      exact ⟨_, rfl, h⟩
theorem enum_begins1 {prog : Program} {w : World} {A : Around} {E : Value → Shared → Prop} {s : Shared} {v : Value} {o : Obj} {H : Heap → Prop} {Q : Value → Shared → Prop} (B : Begins v o H) (h1 : H s.heap)
    (h : ∀ h', IsEnum h' (s.heap.objs.size + 1) s.heap.objs.size 0 .none → h'.get? s.heap.objs.size = some o → h'.objs.size = s.heap.objs.size + 2 →
      (∀ b o, s.heap.get? b = some o → h'.get? b = some o) → Q (.ref (s.heap.objs.size + 1)) { s with heap := h' }) :
    wpAny (model prog w) A (call (.type "enumerate") [v]) Q E s := by
  refine callType_new F.called_enumerate (by decide) (F.typeCall_enumerate_1 _) (F.newCall_enumerate_1 _) (fun obj => F.args_object_init_2 obj _) F.entry_enumerate_new
    (meets_enum1 B) ⟨h1, ?_⟩
  have hz : (s.heap.push o).objs.size = s.heap.objs.size + 1 := Heap.size_push ..
  show _ ∧ _
  rw [hz]
  have he : IsEnum ((s.heap.push o).push { cls := .type "enumerate", data := .fields #[.none, .bool false, .ref s.heap.objs.size, rawInt 0, .none, .none] }) (s.heap.objs.size + 1) s.heap.objs.size 0 .none := by
    have := Heap.get?_push_size (s.heap.push o) (o := { cls := .type "enumerate", data := .fields #[.none, .bool false, .ref s.heap.objs.size, rawInt 0, .none, .none] }) rfl
    rw [hz] at this; exact this
  refine ⟨⟨_, he, rfl⟩, h _ he (Heap.get?_push_of_some _ (Heap.get?_push_size _ B.free)) (by rw [Heap.size_push, hz]) fun b o x => Heap.get?_push_of_some _ (Heap.get?_push_of_some _ x)⟩
theorem vals_ref1 {a : Addr} {us : List Value} (r : Vals [V.ref a] us) : us = [.ref a] := by
  cases r with
  | cons r rr => cases rr; cases r; rfl
theorem pi_enu1 {X : Cx} {e : Expr} {ta : TA} {p pos tpos : Pos} {elts : List Expr} {kk : Nat} (hg : Gl X "enumerate") (hm : X.mg "enumerate" = none) (ha : PA X [e] ta) (hs : starEach [e] X.env = [(false, eval e X.env)] := by rfl) :
    PI X (.Tuple elts kk tpos) (.Call (.Name "enumerate" p) [e] [] pos) (iEnu1 ta) := by
  refine ⟨fun pins s σ H R I h => ?_⟩
  refine Call_ (ld_blt I hg hm boot_enumerate (PyProof.Rows.callWith_type1 (thn (ha.run pos pins s σ H _ I h) fun us s1 ⟨vs, H1, I1, r1, q1⟩ => ?_) hs rfl))
  obtain ⟨b, a, xs, e1, hq, q⟩ := q1
  subst e1
  cases vals_ref1 r1
  obtain ⟨its, rv, p'⟩ := src_obj I1 hq
  exact enum_begins1 (begins_B b a its.toArray) p' fun h' he hit hsz hk => enu_go I1 hq q he (iterB_new hit) hk
theorem pi_enu2 {X : Cx} {e e2 : Expr} {ta : TA} {p pos tpos : Pos} {elts : List Expr} {kk : Nat} (hg : Gl X "enumerate") (hm : X.mg "enumerate" = none) (ha : PA X [e, e2] ta)
    (hs : starEach [e, e2] X.env = (false, eval e X.env) :: starEach [e2] X.env := by rfl) (hpl : (backTo pos (starEach [e2] X.env)).any (·.1) = false := by rfl) :
    PI X (.Tuple elts kk tpos) (.Call (.Name "enumerate" p) [e, e2] [] pos) (iEnu2 ta) := by
  refine ⟨fun pins s σ H R I h => ?_⟩
  refine Call_ (ld_blt I hg hm boot_enumerate (PyProof.Rows.callWith_type1 (thn (ha.run pos pins s σ H _ I h) fun us s1 ⟨vs, H1, I1, r1, q1⟩ => ?_) hs hpl))
  obtain ⟨b, a, xs, k, e1, ⟨k0, k1⟩, hq, q⟩ := q1
  subst e1
  cases r1 with
  | cons r rr =>
    cases rr with
    | cons r2 rr2 =>
      cases rr2
      cases r
      obtain ⟨t, rfl⟩ := r2
      obtain ⟨its, rv, p'⟩ := src_obj I1 hq
      exact enum_begins (begins_B b a its.toArray) p' k0 k1 fun h' he hit hsz hk => enu_go I1 hq q he (iterB_new hit) hk

/-! ### zip(v, w), each a list or a tuple that stands still -/
def Itzp (b : Bool) (a : Addr) (xs : List V) (b2 : Bool) (a2 : Addr) (ys : List V) : It :=
  ⟨fun i H => SrcB b H a xs ∧ SrcB b2 H a2 ys ∧ i < xs.length ∧ i < ys.length, fun i H v H' => ∃ T x y o, v = .ref T ∧ H T = none ∧ o.dict = none ∧ H' = upd H T (.frz o (.tup [x, y])) ∧ xs[i]? = some x ∧ ys[i]? = some y,
    fun i H => SrcB b H a xs ∧ SrcB b2 H a2 ys ∧ i = min xs.length ys.length⟩
theorem rel_get {xs : List V} {its : List Value} {i : Nat} {u : Value} (rv : Vals xs its) (h : its[i]? = some u) : ∃ x, xs[i]? = some x ∧ RelV x u := by
  have hl := rv.length
  have hlt : i < xs.length := by have := (List.getElem?_eq_some_iff.mp h).1; omega
  have hx : xs[i]? = some xs[i] := List.getElem?_eq_getElem hlt
  obtain ⟨u', e1, r1⟩ := rv.get hx
  rw [h] at e1
  cases e1
  exact ⟨_, hx, r1⟩
theorem turn_zipB {P : Program} {w : World} {K : PySem.W.Frag} {elts : List Expr} {kk : Nat} {tpos : Pos} (b : Bool) (a : Addr) (xs : List V) (b2 : Bool) (a2 : Addr) (ys : List V) {z TI TO i1 i2 : Addr} (S : ZipSep2 z TI TO i1 i2 [i1] [i2]) :
    Turn P w K (.Tuple elts kk tpos) (Itzp b a xs b2 a2 ys) [z, TI, TO, i1, i2] z (fun i h => IsZip h z TI TO .none ∧ IsTupOf2 h TI (.ref i1) (.ref i2) ∧ (∃ x y, IsTupOf2 h TO x y) ∧ IterB b h i1 a i ∧ IterB b2 h i2 a2 i) where
  mem := by simp
  obj := fun i h st c hc => by
    obtain ⟨hz, hTI, ⟨x, y, hTO⟩, h1, h2⟩ := st
    have e' : c = z ∨ c = TI ∨ c = TO ∨ c = i1 ∨ c = i2 := by simpa using hc
    rcases e' with q | q | q | q | q
    · rw [q]; exact ⟨_, hz, fun v q => nomatch q⟩
    · rw [q]; exact ⟨_, hTI, fun v q => nomatch q⟩
    · rw [q]; exact ⟨_, hTO, fun v q => nomatch q⟩
    · rw [q]; exact h1.get
    · rw [q]; exact h2.get
  keep := fun i h h' st k => by
    obtain ⟨hz, hTI, ⟨x, y, hTO⟩, h1, h2⟩ := st
    exact ⟨k z (by simp) _ hz, k TI (by simp) _ hTI, ⟨x, y, k TO (by simp) _ hTO⟩, h1.at fun o q => k i1 (by simp) o q, h2.at fun o q => k i2 (by simp) o q⟩
  item := by
    intro X hP hw hK hc i pins s σ H E I hf st hg
    subst hP hw hK
    obtain ⟨hz, hTI, ⟨x0, y0, hTO⟩, h1, h2⟩ := st
    obtain ⟨hqx, hqy, hx, hy⟩ := hg
    obtain ⟨its, rv, p⟩ := src_obj I hqx
    obtain ⟨its2, rv2, p2⟩ := src_obj I hqy
    have l1 := rv.length
    have l2 := rv2.length
    have hzl : z < s.heap.objs.size := Heap.lt_size hz
    have na : ∀ c ∈ [z, TI, TO, i1, i2], a ≠ c := fun c hm => SrcB.ne hqx (hf c hm).1
    have na2 : ∀ c ∈ [z, TI, TO, i1, i2], a2 ≠ c := fun c hm => SrcB.ne hqy (hf c hm).1
    have S' : ZipSep2 z TI TO i1 i2 [i1, a] [i2, a2] := by
      have m1 := S.zf1
      have m2 := S.Tf1
      have m3 := S.zf2
      have m4 := S.Tf2
      have m5 := S.sep1_2
      have m6 := S.sep2_1
      simp only [List.mem_singleton] at m1 m2 m3 m4 m5 m6
      have q1 := na z (by simp)
      have q2 := na TO (by simp)
      have q3 := na i2 (by simp)
      have q4 := na2 z (by simp)
      have q5 := na2 TO (by simp)
      have q6 := na2 i1 (by simp)
      exact ⟨S.TIz, S.TOz, S.TITO, S.TIi1, by simp, by simp; exact ⟨m1, Ne.symm q1⟩, by simp; exact ⟨m2, Ne.symm q2⟩, S.TIi2, by simp, by simp; exact ⟨m3, Ne.symm q4⟩, by simp; exact ⟨m4, Ne.symm q5⟩, by simp; exact ⟨m5, Ne.symm q6⟩, by simp; exact ⟨m6, Ne.symm q3⟩⟩
    refine wpAny_pyNext_zipD2_item S' (draws_B (A := X.A.in1) b (I.ok.hd hc) i1 a (na i1 (by simp)) its.toArray) (draws_B (A := X.A.in1) b2 (I.ok.hd hc) i2 a2 (na2 i2 (by simp)) its2.toArray) hz hTI hTO (i := i) ⟨h1, p⟩ ⟨h2, p2⟩ (by simp; omega) (by simp; omega)
      fun u u2 h' tk hu hu2 z' TO' h1' h2' hT hsz hk => ?_
    obtain ⟨x, hx', ru⟩ := rel_get rv (i := i) (by simpa using hu)
    obtain ⟨y, hy', ru2⟩ := rel_get rv2 (i := i) (by simpa using hu2)
    refine ⟨_, rfl, wpAny_letOwnedTupleGo_zip (s := { s with heap := h', toks := tk }) z' fun h'' z'' sb => ?_⟩
    have hT2 : h''.get? s.heap.objs.size = some { cls := .type "tuple", data := .seq #[u, u2] } := (sb.2 _ (Nat.ne_of_gt hzl)).trans hT
    have new : ObjOk X.prog X.w (upd H s.heap.objs.size (.frz { cls := .type "tuple", data := .seq #[u, u2] } (.tup [x, y]))) h'' s.heap.objs.size (.frz { cls := .type "tuple", data := .seq #[u, u2] } (.tup [x, y])) :=
      ⟨hT2, by show 2 ≤ sizeLine; decide, [u, u2], .cons ru (.cons ru2 .nil), ⟨_, hT2, rfl, _, rfl⟩⟩
    have I1 : Inv X pins σ (upd H s.heap.objs.size (.frz { cls := .type "tuple", data := .seq #[u, u2] } (.tup [x, y]))) { s with heap := h'', toks := tk } :=
      I.turnedNew (t' := tk) (ch := [z, TI, TO, i1, i2]) (fun c o hb q => (sb.2 c (fun q' => hb (by simp [q']))).trans (hk c o (fun q' => hb (by simp [q'])) (fun q' => hb (by simp [q'])) (fun q' => hb (by simp [q'])) (fun q' => hb (by simp [q'])) q)) hf (Nat.le_refl _) new
    refine ⟨.ref s.heap.objs.size, _, I1, rfl, ⟨_, x, y, _, rfl, I.hok.fresh (Nat.le_refl _), rfl, rfl, hx', hy'⟩, ⟨z'', ?_, ⟨u, u2, ?_⟩, ?_, ?_⟩, fun c hcm => ?_⟩
    · exact (sb.2 _ S.TIz).trans (hk _ _ S.TIz S.TITO S.TIi1 S.TIi2 hTI)
    · exact (sb.2 _ S.TOz).trans TO'
    · exact h1'.1.at fun o q => (sb.2 _ (Ne.symm S.zi1)).trans q
    · exact h2'.1.at fun o q => (sb.2 _ (Ne.symm S.zi2)).trans q
    · have hlt : c < s.heap.objs.size := by
        have e' : c = z ∨ c = TI ∨ c = TO ∨ c = i1 ∨ c = i2 := by simpa using hcm
        rcases e' with q | q | q | q | q
        · rw [q]; exact hzl
        · rw [q]; exact Heap.lt_size hTI
        · rw [q]; exact Heap.lt_size hTO
        · rw [q]; obtain ⟨_, e1, _⟩ := h1.get; exact Heap.lt_size e1
        · rw [q]; obtain ⟨_, e2, _⟩ := h2.get; exact Heap.lt_size e2
      rw [upd_ne (Nat.ne_of_lt hlt)]
      exact (hf c hcm).1
  done := by
    intro X hP hw hK hc i pins s σ H E I hf st hg
    subst hP hw hK
    obtain ⟨hz, hTI, ⟨x0, y0, hTO⟩, h1, h2⟩ := st
    obtain ⟨hqx, hqy, hend⟩ := hg
    obtain ⟨its, rv, p⟩ := src_obj I hqx
    obtain ⟨its2, rv2, p2⟩ := src_obj I hqy
    have l1 := rv.length
    have l2 := rv2.length
    have na : ∀ c ∈ [z, TI, TO, i1, i2], a ≠ c := fun c hm => SrcB.ne hqx (hf c hm).1
    have na2 : ∀ c ∈ [z, TI, TO, i1, i2], a2 ≠ c := fun c hm => SrcB.ne hqy (hf c hm).1
    have S' : ZipSep2 z TI TO i1 i2 [i1, a] [i2, a2] := by
      have m1 := S.zf1
      have m2 := S.Tf1
      have m3 := S.zf2
      have m4 := S.Tf2
      have m5 := S.sep1_2
      have m6 := S.sep2_1
      simp only [List.mem_singleton] at m1 m2 m3 m4 m5 m6
      have q1 := na z (by simp)
      have q2 := na TO (by simp)
      have q3 := na i2 (by simp)
      have q4 := na2 z (by simp)
      have q5 := na2 TO (by simp)
      have q6 := na2 i1 (by simp)
      exact ⟨S.TIz, S.TOz, S.TITO, S.TIi1, by simp, by simp; exact ⟨m1, Ne.symm q1⟩, by simp; exact ⟨m2, Ne.symm q2⟩, S.TIi2, by simp, by simp; exact ⟨m3, Ne.symm q4⟩, by simp; exact ⟨m4, Ne.symm q5⟩, by simp; exact ⟨m5, Ne.symm q6⟩, by simp; exact ⟨m6, Ne.symm q3⟩⟩
    exact wpAny_pyNext_zipD2_end S' (draws_B (A := X.A.in1) b (I.ok.hd hc) i1 a (na i1 (by simp)) its.toArray) (draws_B (A := X.A.in1) b2 (I.ok.hd hc) i2 a2 (na2 i2 (by simp)) its2.toArray) hz hTI hTO (i := i) ⟨h1, p⟩ ⟨h2, p2⟩ (by simp; omega) (by simp; omega) (by simp; omega)
      fun h' tk hk => ⟨rfl, I.turnedL (t' := tk) (ch := [z, TI, TO, i1, i2]) (fun c o hb q =>
      hk c o (fun q' => hb (by simp [q'])) (fun q' => hb (by simp [q'])) (fun q' => hb (by simp [q'])) (fun q' => hb (by simp [q'])) q) hf⟩
  self := fun A i s Q E st h => wpAny_pyIter_zip st.1 h
def iZp (ta : TA) : TI := fun σ H R => ta σ H fun vs H1 => ∃ b a xs b2 a2 ys, vs = [.ref a, .ref a2] ∧ SrcB b H1 a xs ∧ SrcB b2 H1 a2 ys ∧ R (Itzp b a xs b2 a2 ys) H1
theorem pi_zp {X : Cx} {e e2 : Expr} {ta : TA} {p pos tpos : Pos} {elts : List Expr} {kk : Nat} (hg : Gl X "zip") (hm : X.mg "zip" = none) (ha : PA X [e, e2] ta)
    (hs : starEach [e, e2] X.env = (false, eval e X.env) :: starEach [e2] X.env := by rfl) (hpl : (backTo pos (starEach [e2] X.env)).any (·.1) = false := by rfl) :
    PI X (.Tuple elts kk tpos) (.Call (.Name "zip" p) [e, e2] [] pos) (iZp ta) := by
  refine ⟨fun pins s σ H R I h => ?_⟩
  refine Call_ (ld_blt I hg hm PyProof.Rows.boot_zip (PyProof.Rows.callWith_type1 (thn (ha.run pos pins s σ H _ I h) fun us s1 ⟨vs, H1, I1, r1, q1⟩ => ?_) hs hpl))
  obtain ⟨b, a, xs, b2, a2, ys, ex, hqx, hqy, q⟩ := q1
  subst ex
  cases r1 with
  | cons r rr =>
    cases rr with
    | cons r' rr =>
      cases rr
      cases r
      cases r'
      obtain ⟨its, rv, p1⟩ := src_obj I1 hqx
      obtain ⟨its2, rv2, p2⟩ := src_obj I1 hqy
      have fresh5 : ∀ c, c ∈ [s1.heap.objs.size + 4, s1.heap.objs.size + 2, s1.heap.objs.size + 3, s1.heap.objs.size, s1.heap.objs.size + 1] → FpOk X pins H1 c := fun c hcm => by
        have e' : c = s1.heap.objs.size + 4 ∨ c = s1.heap.objs.size + 2 ∨ c = s1.heap.objs.size + 3 ∨ c = s1.heap.objs.size ∨ c = s1.heap.objs.size + 1 := by simpa using hcm
        have hle : s1.heap.objs.size ≤ c := by
          rcases e' with z | z | z | z | z
          · rw [z]; exact Nat.le_add_right _ _
          · rw [z]; exact Nat.le_add_right _ _
          · rw [z]; exact Nat.le_add_right _ _
          · rw [z]; exact Nat.le_refl _
          · rw [z]; exact Nat.le_add_right _ _
        exact I1.fpOk hle (I1.hok.fresh hle)
      refine zip_begins2 (begins_B b a its.toArray) (begins_B b2 a2 its2.toArray) p1 p2 fun h' hz hTI hTO h1 h2 hsz hk => wpAny_pyIter_zip hz ?_
      have I2 : Inv X pins σ H1 { s1 with heap := h' } := I1.kept (t' := s1.toks) hk
      exact ⟨s1.heap.objs.size + 4, [s1.heap.objs.size + 4, s1.heap.objs.size + 2, s1.heap.objs.size + 3, s1.heap.objs.size, s1.heap.objs.size + 1], _, _, H1, rfl, I2, turn_zipB b a xs b2 a2 ys (zip_sep2 (fp1 := []) (fp2 := []) (fun _ h => nomatch h) (fun _ h => nomatch h)), ⟨hz, hTI, ⟨_, _, hTO⟩, iterB_new h1, iterB_new h2⟩, fresh5, q⟩

/-! ### on the data level -/
section
variable {M : Mx} {δ : List SD} {R : List D → Prop} {te : TE} {ta : TA}
def prD (x y : D) : D := .tuple [x, y]
def enD (k : Int) (xs : List D) : List D := (List.range xs.length).zipWith (fun (i : Nat) x => prD (.int (k + (i : Nat))) x) xs
def zpD (xs ys : List D) : List D := List.zipWith prD xs ys
theorem enD_len (k : Int) (xs : List D) : (enD k xs).length = xs.length := by unfold enD; simp
theorem enD_get {k : Int} {xs : List D} {i : Nat} {x : D} (h : xs[i]? = some x) : (enD k xs)[i]? = some (prD (.int (k + (i : Nat))) x) := by
  unfold enD
  have hi := (List.getElem?_eq_some_iff.mp h).1
  rw [List.getElem?_zipWith, List.getElem?_range hi, h]
theorem srcB_of {G : Hp} {v : V} {d : D} {xs : List D} (p : Rp G v d) (h : d = .list xs ∨ d = .tuple xs) : ∃ b a us, v = .ref a ∧ SrcB b G a us ∧ RpA G us xs := by
  rcases h with rfl | rfl
  · obtain ⟨a, us, rfl, ha, ra⟩ := p.lst_inv
    exact ⟨true, a, us, rfl, ha, ra⟩
  · obtain ⟨a, us, rfl, ha, ra⟩ := p.tup_inv
    exact ⟨false, a, us, rfl, ha, ra⟩
theorem jr_en {B : Bg} {G : Hp} {b : Bool} {a : Addr} {us : List V} {xs : List D} {k : Int} (h : SrcB b G a us) (r : RpA G us xs) : JR B G (Iten b a k us) (enD k xs) := fun G1 H1 e ok => by
  have sq : SrcB b H1 a us := (h.same e).same ok.gh
  have hl := r.length
  refine ⟨fun i hi => ⟨sq, by rw [enD_len] at hi; omega⟩, ⟨sq, by rw [enD_len]; omega⟩, fun i v H2 hi y => ?_⟩
  obtain ⟨T, x, o, rfl, hT, ho, rfl, hx⟩ := y
  obtain ⟨d, ed, p⟩ := (RpA.mono e _ _ r).getV hx
  obtain ⟨st, ok2⟩ := Stp.new ok (.frz o (.tup [.int (k + (i : Nat)), x])) hT
  exact ⟨_, _, st, ok2, enD_get ed, .tup ⟨o, ho, upd_same⟩ (.cons (.int _) (.cons (p.mono st.gg) .nil))⟩
theorem wi_en1 (h : WA M ta δ (fun ds => ∃ d, ds = [d] ∧ isSeq d (fun xs => R (enD 0 xs)))) : WI M (iEnu1 ta) δ R := fun G H σ s Q q =>
  h G H σ s _ fun ds vs G1 H1 ⟨d, e, xs, e2, r⟩ st ok p => by
    subst e
    cases p with
    | cons p1 p2 =>
      cases p2
      obtain ⟨b, a, us, rfl, hb, ra⟩ := srcB_of p1 e2
      exact ⟨b, a, us, rfl, hb.same ok.gh, q _ _ G1 H1 r st ok (jr_en hb ra)⟩
theorem wi_en2 (h : WA M ta δ (fun ds => ∃ d k, ds = [d, .int k] ∧ (-(2 ^ 63) ≤ k ∧ k < 2 ^ 63) ∧ isSeq d (fun xs => R (enD k xs)))) : WI M (iEnu2 ta) δ R := fun G H σ s Q q =>
  h G H σ s _ fun ds vs G1 H1 ⟨d, k, e, hk, xs, e2, r⟩ st ok p => by
    subst e
    cases p with
    | cons p1 p2 =>
      cases p2 with
      | cons p2 p3 =>
        cases p3
        cases p2
        obtain ⟨b, a, us, rfl, hb, ra⟩ := srcB_of p1 e2
        exact ⟨b, a, us, k, rfl, hk, hb.same ok.gh, q _ _ G1 H1 r st ok (jr_en hb ra)⟩
theorem zpD_get {xs ys : List D} {i : Nat} {x y : D} (h : xs[i]? = some x) (h2 : ys[i]? = some y) : (zpD xs ys)[i]? = some (prD x y) := by
  unfold zpD
  rw [List.getElem?_zipWith, h, h2]
theorem zpD_len (xs ys : List D) : (zpD xs ys).length = min xs.length ys.length := by unfold zpD; simp
theorem jr_zp {B : Bg} {G : Hp} {b b2 : Bool} {a a2 : Addr} {us ws : List V} {xs ys : List D} (h : SrcB b G a us) (r : RpA G us xs) (h2 : SrcB b2 G a2 ws) (r2 : RpA G ws ys) : JR B G (Itzp b a us b2 a2 ws) (zpD xs ys) := fun G1 H1 e ok => by
  have sq : SrcB b H1 a us := (h.same e).same ok.gh
  have sq2 : SrcB b2 H1 a2 ws := (h2.same e).same ok.gh
  have hl := r.length
  have hl2 := r2.length
  refine ⟨fun i hi => ⟨sq, sq2, by rw [zpD_len] at hi; omega, by rw [zpD_len] at hi; omega⟩, ⟨sq, sq2, by rw [zpD_len]; omega⟩, fun i v H2 hi y => ?_⟩
  obtain ⟨T, x, z, o, rfl, hT, ho, rfl, hx, hz⟩ := y
  obtain ⟨d, ed, p⟩ := (RpA.mono e _ _ r).getV hx
  obtain ⟨d2, ed2, p2⟩ := (RpA.mono e _ _ r2).getV hz
  obtain ⟨st, ok2⟩ := Stp.new ok (.frz o (.tup [x, z])) hT
  exact ⟨_, _, st, ok2, zpD_get ed ed2, .tup ⟨o, ho, upd_same⟩ (.cons (p.mono st.gg) (.cons (p2.mono st.gg) .nil))⟩
theorem wi_zp (h : WA M ta δ (fun ds => ∃ d e, ds = [d, e] ∧ isSeq d (fun xs => isSeq e (fun ys => R (zpD xs ys))))) : WI M (iZp ta) δ R := fun G H σ s Q q =>
  h G H σ s _ fun ds vs G1 H1 ⟨d, e', e, xs, e2, ys, e3, r⟩ st ok p => by
    subst e
    cases p with
    | cons p1 p2 =>
      cases p2 with
      | cons p2 p3 =>
        cases p3
        obtain ⟨b, a, us, rfl, hb, ra⟩ := srcB_of p1 e2
        obtain ⟨b2, a2, ws, rfl, hb2, ra2⟩ := srcB_of p2 e3
        exact ⟨b, a, us, b2, a2, ws, rfl, hb.same ok.gh, hb2.same ok.gh, q _ _ G1 H1 r st ok (jr_zp hb ra hb2 ra2)⟩
end
end FK

/-! FkH: operators of several kinds, built-ins by values, further statements. -/
namespace FK
open PySem PySem.Spec PyProof.Rows L2

/-! ### tuple * n for every n -/
theorem tup_mul_self (l : Addr) (items : Array Value) (n : Nat) (dd : Option Addr) (sl : Array (Option Value)) (x : Int) (u : Tok) (c0 : (decide (x < -(2 ^ 63)) || decide (x ≥ 2 ^ 63)) = false) (c1 : (items.isEmpty || x == 1) = true) :
    Meets (Builtin.«tuple.__mul__» ⟨[.ref l, .int x u], []⟩) (fun _ R s => s.heap.get? l = some { cls := .type "tuple", dict := dd, data := .seq items n, slots := sl } ∧ R (.ok (.ret (Value.ref l))) s) :=
  .of_wp fun prog w A R s h => by
    obtain ⟨hp, g, d, tk, os⟩ := s
    obtain ⟨hl, h⟩ := h
    have f1 := AutoSeq1.idx_int
    wp_walk using wpAny_loadPart' hl
    repeat (first
      | (refine wpAny_ite_false (decide_eq_false (by rw [c0]; exact Bool.false_ne_true)) ?_; wp_walk using wpAny_loadPart' hl)
      | (refine wpAny_ite_true (decide_eq_true c1) ?_; wp_walk using wpAny_loadPart' hl))
    exact ⟨_, rfl, h⟩
theorem tup_mul_none (l : Addr) (items : Array Value) (n : Nat) (dd : Option Addr) (sl : Array (Option Value)) (x : Int) (u : Tok) (c0 : (decide (x < -(2 ^ 63)) || decide (x ≥ 2 ^ 63)) = false) (c1 : (items.isEmpty || x == 1) = false) (c2 : (decide (x ≤ 0) || items.isEmpty) = true) :
    Meets (Builtin.«tuple.__mul__» ⟨[.ref l, .int x u], []⟩) (fun _ R s => s.heap.get? l = some { cls := .type "tuple", dict := dd, data := .seq items n, slots := sl } ∧
      R (.ok (.ret (Value.ref s.heap.objs.size))) { s with heap := s.heap.push { cls := Value.type "tuple", data := Data.seq #[] }, toks := s.toks }) :=
  .of_wp fun prog w A R s h => by
    obtain ⟨hp, g, d, tk, os⟩ := s
    obtain ⟨hl, h⟩ := h
    have f1 := AutoSeq1.idx_int
    wp_walk using wpAny_loadPart' hl
    repeat (first
      | (refine wpAny_ite_false (decide_eq_false (by rw [c0]; exact Bool.false_ne_true)) ?_; wp_walk using wpAny_loadPart' hl)
      | (refine wpAny_ite_false (decide_eq_false (by rw [c1]; exact Bool.false_ne_true)) ?_; wp_walk using wpAny_loadPart' hl)
      | (refine wpAny_ite_true (decide_eq_true c2) ?_; wp_walk using wpAny_loadPart' hl))
    exact ⟨_, rfl, h⟩
/-- t * k, 0 ≤ k ≤ 1000; one item at least -/
def rRepA : R2 := fun x y H Q => ∃ l k xs, x = .ref l ∧ y = .int k ∧ TupAt H l xs ∧ xs ≠ [] ∧ 0 ≤ k ∧ k ≤ 1000 ∧ xs.length ≤ 1000 ∧
  (k = 1 → Q (.ref l) H) ∧ (k ≠ 1 → ∀ (p : Addr) (o : Obj), o.dict = none → H p = none → Q (.ref p) (upd H p (.frz o (.tup (List.replicate k.toNat xs).flatten))))
theorem op_repA {X : Cx} : OpR X (binaryOp .Mult) rRepA := by
  intro pins s σ H x y v u Q I rx ry h
  obtain ⟨l, k, xs, rfl, rfl, hT, hne, h1, h2, hz, q1, q2⟩ := h
  cases rx
  obtain ⟨t, rfl⟩ := ry
  obtain ⟨its, r, ⟨⟨cls, dd, data, sl⟩, ho, hc, n, hd⟩, hs⟩ := I.tuple hT.sq
  simp only at hc hd
  subst hc hd
  have hle : its.length = xs.length := r.length.symm
  have hi : its.toArray.isEmpty = false := by
    cases its with
    | nil => exact absurd (List.eq_nil_of_length_eq_zero (show xs.length = 0 from r.length)) hne
    | cons a b => rfl
  have c0 : (decide (k < -(2 ^ 63)) || decide (k ≥ 2 ^ 63)) = false := by
    rw [decide_eq_false (by omega), decide_eq_false (by omega)] <;> rfl
  have hfl : (List.replicate k.toNat xs).flatten.length ≤ sizeLine := by
    rw [PyProof.Rows.lm_len_rep_flat, sizeLine_eq]
    have a1 : k.toNat * xs.length ≤ 1000 * 1000 := Nat.mul_le_mul (by omega) hz
    omega
  have go : ∀ {R : Result → Shared → Prop}, R (.ok (.ret (.ref l))) s → True := fun _ => trivial
  by_cases e1 : k = 1
  · refine wpAny_binaryOp_repeat_ref (T := "tuple") (U := "int") (by decide) ⟨_, ho, rfl⟩ (fun s' => typeIs_int s' k t) noFill_tuple_mul F.fills_int_mul F.slot_int_rmul repeat_tuple F.slot_int_index.lookup
      (call_meets F.slot_int_rmul (typeIs_int s k t) F.entry_int_rmul (F.args_int_rmul_2 _ _) (int_rmul_tuple k t l its.toArray n dd sl)
        ⟨ho, rfl, ⟨_, ho, rfl⟩, call_meets F.slot_tuple_mul ⟨_, ho, rfl⟩ F.entry_tuple_mul (F.args_tuple_mul_2 _ _) (tup_mul_self l its.toArray n dd sl k t c0 (by rw [hi, e1]; rfl)) ⟨ho, ?_⟩⟩)
    exact ⟨.ref l, H, I, rfl, q1 e1⟩
  · have c1 : (its.toArray.isEmpty || k == 1) = false := by
      rw [hi, Bool.false_or]
      exact beq_eq_false_iff_ne.mpr e1
    by_cases e0 : k ≤ 0
    · refine wpAny_binaryOp_repeat_ref (T := "tuple") (U := "int") (by decide) ⟨_, ho, rfl⟩ (fun s' => typeIs_int s' k t) noFill_tuple_mul F.fills_int_mul F.slot_int_rmul repeat_tuple F.slot_int_index.lookup
        (call_meets F.slot_int_rmul (typeIs_int s k t) F.entry_int_rmul (F.args_int_rmul_2 _ _) (int_rmul_tuple k t l its.toArray n dd sl)
          ⟨ho, rfl, ⟨_, ho, rfl⟩, call_meets F.slot_tuple_mul ⟨_, ho, rfl⟩ F.entry_tuple_mul (F.args_tuple_mul_2 _ _) (tup_mul_none l its.toArray n dd sl k t c0 c1 (by rw [decide_eq_true e0]; rfl)) ⟨ho, ?_⟩⟩)
      have k0 : k.toNat = 0 := by omega
      refine ⟨.ref s.heap.objs.size, _, laidT (t' := s.toks) (its := []) (xs := (List.replicate k.toNat xs).flatten) I (fun b ob q => Heap.get?_push_of_some _ q) (Nat.le_refl _) hfl ?_ (Heap.get?_push_size _ rfl) rfl ⟨0, rfl⟩, rfl, q2 e1 _ _ rfl (I.hok.fresh (Nat.le_refl _))⟩
      rw [k0]
      exact .nil
    · have hsz0 : its.toArray.size = xs.length := by rw [List.size_toArray, hle]
      have hm : ((its.toArray.size : Nat) : Int) * k ≤ 1000000 := by
        rw [hsz0]
        have a1 : ((xs.length : Nat) : Int) * k ≤ 1000 * k := Int.mul_le_mul_of_nonneg_right (by omega) (by omega)
        omega
      have flen : (List.replicate k.toNat its).flatten.length ≤ sizeLine := by
        rw [PyProof.Rows.lm_len_rep_flat] at hfl ⊢
        rw [hle]
        exact hfl
      have c2 : (decide (k ≤ 0) || its.toArray.isEmpty) = false := by
        rw [hi, Bool.or_false]
        exact decide_eq_false e0
      have c4 : Builtin.Tuple.tupleTooMany (((its.toArray.size : Nat) : Int) * k) = false := by
        unfold Builtin.Tuple.tupleTooMany
        rw [sizeLine_eq]
        exact decide_eq_false (by omega)
      refine wpAny_binaryOp_repeat_ref (T := "tuple") (U := "int") (by decide) ⟨_, ho, rfl⟩ (fun s' => typeIs_int s' k t) noFill_tuple_mul F.fills_int_mul F.slot_int_rmul repeat_tuple F.slot_int_index.lookup
        (call_meets F.slot_int_rmul (typeIs_int s k t) F.entry_int_rmul (F.args_int_rmul_2 _ _) (int_rmul_tuple k t l its.toArray n dd sl)
          ⟨ho, rfl, ⟨_, ho, rfl⟩, call_meets F.slot_tuple_mul ⟨_, ho, rfl⟩ F.entry_tuple_mul (F.args_tuple_mul_2 _ _) (tuple_mulW l its.toArray n dd sl k t c0 c1 c2 (by omega) c4 (by rw [size_rep, List.size_toArray]; exact flen)) ⟨ho, ?_⟩⟩)
      rw [size_rep]
      exact ⟨.ref s.heap.objs.size, _, laidT (t' := s.toks) I (fun b ob q => Heap.get?_push_of_some _ q) (Nat.le_refl _) hfl (r.rep k.toNat) (Heap.get?_push_size _ rfl) rfl ⟨0, rfl⟩, rfl, q2 e1 _ _ rfl (I.hok.fresh (Nat.le_refl _))⟩
/-- t + u -/
def rCatF : R2 := fun x y H Q => ∃ a b xs ys, x = .ref a ∧ y = .ref b ∧ TupAt H a xs ∧ TupAt H b ys ∧ xs.length + ys.length ≤ sizeLine ∧
  (xs = [] → Q (.ref b) H) ∧ (xs ≠ [] → ys = [] → Q (.ref a) H) ∧ (xs ≠ [] → ys ≠ [] → ∀ (p : Addr) (o : Obj), o.dict = none → H p = none → Q (.ref p) (upd H p (.frz o (.tup (xs ++ ys)))))
theorem op_catF {X : Cx} : OpR X (binaryOp .Add) rCatF := by
  intro pins s σ H x y v u Q I rx ry h
  obtain ⟨a, b, xs, ys, rfl, rfl, ha, hb, hz, q0, q1, q2⟩ := h
  cases rx
  cases ry
  obtain ⟨its, r1, p1, _⟩ := I.tuple ha.sq
  obtain ⟨its2, r2, p2, _⟩ := I.tuple hb.sq
  by_cases hx : xs = []
  · subst hx
    cases r1
    exact cat_tup0 p1 p2 ⟨.ref b, H, I, rfl, q0 rfl⟩
  · refine HT.cat_tup p1 p2 (fun z => hx (r1.nil_iff.mp z)) (fun z => ⟨.ref a, H, I, rfl, q1 hx (r2.nil_iff.mp z)⟩) (fun z => ?_) (by rw [← r1.length, ← r2.length]; exact hz)
    exact ⟨.ref s.heap.objs.size, _, laidT (t' := s.toks) I (fun c ob q => Heap.get?_push_of_some _ q) (Nat.le_refl _) (by rw [List.length_append]; exact hz) (r1.append r2) (Heap.get?_push_size _ rfl) rfl ⟨0, rfl⟩, rfl, q2 hx (fun w => z (r2.nil_iff.mpr w)) _ _ rfl (I.hok.fresh (Nat.le_refl _))⟩
/-- t[lo:hi] -/
def rSlF : V → Option Int → Option Int → Hp → VK → Prop := fun x lo hi H Q => ∃ a xs, x = .ref a ∧ TupAt H a xs ∧
  (HT.sIx xs.length 0 lo = 0 ∧ HT.sIx xs.length xs.length hi = xs.length → Q (.ref a) H) ∧ (¬ (HT.sIx xs.length 0 lo = 0 ∧ HT.sIx xs.length xs.length hi = xs.length) → ∀ (p : Addr) (o : Obj), o.dict = none → H p = none → Q (.ref p) (upd H p (.frz o (.tup (cutV xs lo hi)))))
theorem sl_F {X : Cx} : SlR X rSlF := by
  intro pins s σ H x v vl vu lo hi sl Q I rx hs pl pu h
  obtain ⟨a, xs, rfl, hx, q1, q2⟩ := h
  cases rx
  obtain ⟨its, r, ht, hz⟩ := I.tuple hx.sq
  have hlen : its.toArray.size = xs.length := by rw [List.size_toArray]; exact r.length.symm
  refine ⟨"tuple", _, PyProof.Rows.slot_tuple_getitem.lookup, ht.typeIs, ?_⟩
  by_cases hw : HT.sIx xs.length 0 lo = 0 ∧ HT.sIx xs.length xs.length hi = xs.length
  · exact getItem_tuple_whole ht hs pl pu (by rw [hlen]; exact hw) ⟨.ref a, H, I, rfl, q1 hw⟩
  · refine HT.getItem_tuple_cut ht hs pl pu (by rw [hlen]; exact hw) ?_ (by rw [hlen]; exact hz)
    rw [hlen]
    exact ⟨.ref s.heap.objs.size, _, laidT (t' := s.toks) I (fun b ob q => Heap.get?_push_of_some _ q) (Nat.le_refl _) (Nat.le_trans (cutV_length xs lo hi) hz) ((r.drop (HT.sIx xs.length 0 lo)).take (HT.sIx xs.length xs.length hi - HT.sIx xs.length 0 lo)) (Heap.get?_push_size _ rfl) rfl ⟨0, rfl⟩, rfl, q2 hw _ _ rfl (I.hok.fresh (Nat.le_refl _))⟩
/-- (a, b, ..) -/
theorem pe_tupF {X : Cx} {es : List Expr} {t : TA} {pos : Pos} {x1} (h : PA X es t) : PE X (.Tuple es x1 pos) (tTupF t) := by
  refine ⟨fun pins s σ H Q I hq => ?_⟩
  refine wpAny_Tuple_spliced (thn (h.run pos pins s σ H _ I hq) fun us s1 ⟨xs, H1, I1, r, z, q⟩ => ⟨by rw [← r.length]; exact z, ?_⟩)
  exact ⟨.ref s1.heap.objs.size, _, laidT (t' := s1.toks) I1 (fun b u e => Heap.get?_push_of_some _ e) (Nat.le_refl _) z r (Heap.get?_push_size _ rfl) rfl ⟨0, rfl⟩, rfl, q _ _ rfl (I1.hok.fresh (Nat.le_refl _))⟩
/-- tuple(xs) -/
def rTupOf : List V → Hp → VK → Prop := fun xs H Q => ∃ p ys, xs = [.ref p] ∧ ((H p = some (.lst ys) ∧ ∀ (l : Addr) (o : Obj), o.dict = none → H l = none → Q (.ref l) (upd H l (.frz o (.tup ys)))) ∨ (TupAt H p ys ∧ Q (.ref p) H))
theorem call_tupleF {X : Cx} : CallR X (.type "tuple") rTupOf := by
  intro pins s σ H xs us Q I r h
  obtain ⟨p, ys, rfl, h⟩ := h
  obtain ⟨u, rfl, rx⟩ := vals1 r
  cases rx
  rcases h with ⟨hq, q⟩ | ⟨hq, q⟩
  · obtain ⟨its, r', pl, hz⟩ := I.list (SqL.of hq)
    have hlen := r'.length
    refine call_tuple_list pl.isList (fun h' kp => ?_) (by simp only [List.size_toArray] <;> omega)
    have I1 : Inv X pins σ H { s with heap := h' } := I.kept (t' := s.toks) kp
    exact ⟨.ref h'.objs.size, _, laidT (s := { s with heap := h' }) (a := h'.objs.size) (t' := s.toks) I1 (fun b o e => Heap.get?_push_of_some _ e) (Nat.le_refl _) hz r' (Heap.get?_push_size _ rfl) rfl ⟨0, rfl⟩, rfl, q _ _ rfl (I1.hok.fresh (Nat.le_refl _))⟩
  · obtain ⟨its, r', pl, hz⟩ := I.tuple hq.sq
    exact call_tuple_same pl ⟨.ref p, H, I, rfl, q⟩
/-- tuple(range(..)) -/
def tTupRgF (te : L2.St → Hp → (Int → Int → Hp → Prop) → Prop) : TE := fun σ H Q => te σ H fun a b H1 => RgOk a b ∧ ∀ (q : Addr) (o : Obj), o.dict = none → H1 q = none → Q (.ref q) (upd H1 q (.frz o (.tup (rgV a b))))
theorem pe_tupRgF {X : Cx} {e : Expr} {te : L2.St → Hp → (Int → Int → Hp → Prop) → Prop} {p pos : Pos} (hc : X.calm = true) (hg : Gl X "tuple") (hm : X.mg "tuple" = none) (he : PRg X e te) (na : starEach [e] X.env = (false, eval e X.env) :: starEach [] X.env := by rfl) : PE X (.Call (.Name "tuple" p) [e] [] pos) (tTupRgF te) := by
  refine ⟨fun pins s σ H Q I h => ?_⟩
  refine Call_ (ld_blt I hg hm boot_tuple (PyProof.Rows.callWith_type1 (args_cons (thn (he pins s σ H _ I h) fun x s1 ⟨r, a, b, t, u, v, H1, ex, hr, I1, ok, q⟩ => args_nil ?_) na) na))
  subst ex
  obtain ⟨b1, b2, b3, b4, b5⟩ := ok
  refine call_tuple_range (n := (b - a).toNat) (I1.ok.hd hc) hr (small_one b1 b2 b3 b4) (rangeSize_nat a b) b5 fun h' tk acc hk hi => ?_
  have I2 : Inv X pins σ H1 { s1 with heap := h', toks := tk } := I1.kept hk
  refine ⟨.ref h'.objs.size, _, laidT (s := { s1 with heap := h', toks := tk }) (a := h'.objs.size) (o := { cls := .type "tuple", data := .seq acc }) (t' := tk) I2 (fun c o e => Heap.get?_push_of_some _ e) (Nat.le_refl _) ?_ (vals_rg hi) (Heap.get?_push_size _ rfl) rfl ⟨0, by rw [Array.toArray_toList]⟩, rfl, q _ _ rfl (I2.hok.fresh (Nat.le_refl _))⟩
  rw [rgV_length, sizeLine_eq]
  omega

/-! ### operators of several kinds -/
def rAdd3 : R2 := rOr (rI0 fun i j => .int (i + j)) (rOr rCat rCatF)
theorem op_add3 {X : Cx} : OpR X (binaryOp .Add) rAdd3 := op_or op_add (op_or op_cat op_catF)
def rMul3 : R2 := rOr (rI CMul fun i j => .int (i * j)) (rOr rRep rRepA)
theorem op_mul3 {X : Cx} : OpR X (binaryOp .Mult) rMul3 := op_or op_mul (op_or op_rep op_repA)
def rIn2 (K : PySem.W.Frag) : R2 := rOr (rIn K false) (rInD K)
def rNotIn2 (K : PySem.W.Frag) : R2 := rOr (rIn K true) (rNotInD K)
theorem op_in2 {X : Cx} (hu : X.A.units + 65 < cLine) : OpR X (compareOp .In) (rIn2 X.K) := op_or op_in_seq (op_inD hu)
theorem op_notIn2 {X : Cx} (hu : X.A.units + 65 < cLine) : OpR X (compareOp .NotIn) (rNotIn2 X.K) := op_or op_notIn_seq (op_notInD hu)
def rSl2 (K : PySem.W.Frag) : V → Option Int → Option Int → Hp → VK → Prop := fun x lo hi H Q => rSlL K x lo hi H Q ∨ rSlF x lo hi H Q
theorem sl_2 {X : Cx} : SlR X (rSl2 X.K) := sl_list.or sl_F
/-- max, min of two or three ints -/
def rMax23 : List V → Hp → VK → Prop := fun xs H Q => (∃ i j, xs = [.int i, .int j] ∧ Q (.int (max i j)) H) ∨ (∃ i j k, xs = [.int i, .int j, .int k] ∧ Q (.int (max (max i j) k)) H)
def rMin23 : List V → Hp → VK → Prop := fun xs H Q => (∃ i j, xs = [.int i, .int j] ∧ Q (.int (min i j)) H) ∨ (∃ i j k, xs = [.int i, .int j, .int k] ∧ Q (.int (min (min i j) k)) H)
theorem max_if (i j : Int) : (if j > i then j else i) = max i j := by rw [Int.max_def]; split <;> split <;> omega
theorem min_if (i j : Int) : (if j < i then j else i) = min i j := by rw [Int.min_def]; split <;> split <;> omega
theorem numax (i j : Int) : nuMax2 (.int i) (.int j) = some (.int (max i j)) := by
  show some (if decide (i < j) = true then V.int j else V.int i) = _
  rw [← max_if]
  by_cases h : i < j
  · rw [if_pos (decide_eq_true h), if_pos h]
  · rw [if_neg (by simpa using h), if_neg h]
theorem numin (i j : Int) : nuMin2 (.int i) (.int j) = some (.int (min i j)) := by
  show some (if decide (j < i) = true then V.int j else V.int i) = _
  rw [← min_if]
  by_cases h : j < i
  · rw [if_pos (decide_eq_true h), if_pos h]
  · rw [if_neg (by simpa using h), if_neg h]
theorem call_max23 {X : Cx} (hc : X.calm = true) : CallR X (.builtin "max") rMax23 := by
  intro pins s σ H xs us Q I r h
  rcases h with ⟨i, j, rfl, q⟩ | ⟨i, j, k, rfl, q⟩
  · exact call_max2 hc pins s σ H _ us Q I r ⟨i, j, rfl, by rw [max_if]; exact q⟩
  · exact call_max3Nu hc pins s σ H _ us Q I r ⟨_, _, _, .int (max (max i j) k), rfl, by unfold nuMax3; rw [numax]; exact numax _ _, q⟩
theorem call_min23 {X : Cx} (hc : X.calm = true) : CallR X (.builtin "min") rMin23 := by
  intro pins s σ H xs us Q I r h
  rcases h with ⟨i, j, rfl, q⟩ | ⟨i, j, k, rfl, q⟩
  · exact call_min2 hc pins s σ H _ us Q I r ⟨i, j, rfl, by rw [min_if]; exact q⟩
  · exact call_min3Nu hc pins s σ H _ us Q I r ⟨_, _, _, .int (min (min i j) k), rfl, by unfold nuMin3; rw [numin]; exact numin _ _, q⟩
/-- sum of a list or tuple of ints -/
def rSum2 : List V → Hp → VK → Prop := fun vs H Q => ∃ (b : Bool) (a : Addr) (ns : List Int), vs = [V.ref a] ∧ SrcB b H a (ns.map V.int) ∧ Q (.int ns.sum) H
theorem cr_sum2 {X : Cx} (hc : X.calm = true) : CallR X (.builtin "sum") rSum2 := by
  intro pins s σ H vs us Q I r h
  obtain ⟨b, a, ns, rfl, hs, q⟩ := h
  cases b with
  | true => exact cr_sum hc pins s σ H _ us Q I r ⟨a, ns, rfl, SqL.of hs, q⟩
  | false =>
    obtain ⟨its, rv, hl, _⟩ := I.tuple (TupAt.sq (show TupAt H a _ from hs))
    rw [vals_ref1 r]
    have hi : IntsAre its ns := rv.ints
    obtain ⟨xs, e⟩ := hi.allInts.items
    have hn : numsOf (intItems xs).toList = ns := by rw [← e]; exact hi.numsOf
    rw [nums_intItems] at hn
    have hl : s.heap.IsTuple a its.toArray := hl
    rw [e] at hl
    refine PySem.W.ktm_sumG (I.ok.hd hc) hl fun h' tk t' hk => ?_
    rw [preSum_eq, List.take_of_length_le (by simp), hn]
    exact ⟨.int ns.sum, H, I.kept hk, ⟨_, rfl⟩, q⟩
/-- a method of a tuple -/
def tTM (r : V → List V → Hp → VK → Prop) (to : TE) (t : TA) : TE := fun σ H Q => to σ H fun x H1 => (∃ a xs, x = .ref a ∧ TupAt H1 a xs) ∧ t σ H1 fun ys H2 => r x ys H2 Q
theorem tupAt_is {X : Cx} {pins : List (Addr × Obj)} {σ : L2.St} {H : Hp} {s : Shared} {a : Addr} {xs : List V} (I : Inv X pins σ H s) (h : TupAt H a xs) : s.TypeIs (.ref a) "tuple" ∧ ∀ b, Value.ref a = .ref b → ∃ ob, s.heap.get? b = some ob ∧ ob.dict = none := by
  obtain ⟨o, d, q⟩ := id h
  obtain ⟨its, r, p, z⟩ := I.tuple h.sq
  refine ⟨p.typeIs, fun b e => ?_⟩
  cases e
  exact ⟨o, (I.hok _ _ q).1, d⟩
theorem pe_tm {X : Cx} {o e : Expr} {es : List Expr} {to : TE} {t : TA} {name : Str} {apos cpos : Pos} {id : String} {r : V → List V → Hp → VK → Prop} (slot : Slot "tuple" name id) (hty : typeOf (.builtin id) = pure (.type "method_descriptor")) (hm : MtR X id r) (ho : PE X o to) (ha : PA X (e :: es) t)
    (hbase : attributeBase o name X.env (eval o X.env) = eval o X.env := by rfl)
    (hfew : ((backTo cpos (starEach (e :: es) X.env)).all (fun x => !x.1) && (backToKw cpos (keywordEach [] X.env)).all (fun x => x.1.isSome)
      && decide ((e :: es).length + ([] : List Keyword).length + (if ([] : List Keyword).isEmpty then 0 else 1) < 30)) = true := by rfl)
    (hline : (apos.endLine == cpos.line) = true := by rfl) (hs : starEach (e :: es) X.env = (false, eval e X.env) :: starEach es X.env := by rfl) (hplain : (backTo cpos (starEach es X.env)).any (·.1) = false := by rfl) :
    PE X (.Call (.Attribute o name apos) (e :: es) [] cpos) (tTM r to t) := by
  refine ⟨fun pins s σ H Q I h => ?_⟩
  refine wpAny_Call_method_late hbase hfew hline rfl (thn (ho.run pins s σ H _ I h) fun v s1 ⟨x, H1, I1, r1, ⟨a, xs, ex, ht⟩, q1⟩ => ?_)
  subst ex
  cases r1
  obtain ⟨h1, h2⟩ := tupAt_is I1 ht
  refine ⟨"tuple", id, PySem.F.plainAttrs_tuple, slot, hty, h1, h2, ?_⟩
  have hA := ha.run cpos pins s1 σ H1 _ I1 q1
  rw [hs] at hA ⊢
  refine Calls.callWith_builtin (by show (false || (backTo cpos (starEach es X.env)).any (·.1)) = false; rw [hplain] <;> rfl) (Calls.evalArgs_plain ?_)
  exact thn hA fun us s2 ⟨vs, H2, I2, r2, q2⟩ => hm pins s2 σ H2 (.ref a) vs _ us Q I2 rfl r2 q2
/-- t.index(k), t.count(k), ints -/
def rTIdx : V → List V → Hp → VK → Prop := fun x xs H Q => ∃ (p : Addr) (ns : List Int) (k : Int), x = .ref p ∧ xs = [.int k] ∧ TupAt H p (ns.map V.int) ∧ k ∈ ns ∧ Q (.int (ns.idxOf k : Nat)) H
theorem mt_tidx {X : Cx} : MtR X "tuple.index" rTIdx := by
  intro pins s σ H x xs v us Q I rx rs h
  obtain ⟨p, ns, k, rfl, rfl, hp, hk, q⟩ := h
  cases rx
  obtain ⟨u, rfl, t, rfl⟩ := vals1 rs
  obtain ⟨its, rv, hl, _⟩ := I.tuple hp.sq
  exact SeqAt.tuple_index_ints hl rv.ints hk ⟨.int _, H, I.tok _, ⟨_, rfl⟩, q⟩
def rTCnt : V → List V → Hp → VK → Prop := fun x xs H Q => ∃ (p : Addr) (ns : List Int) (k : Int), x = .ref p ∧ xs = [.int k] ∧ TupAt H p (ns.map V.int) ∧ Q (.int (ns.count k : Nat)) H
theorem mt_tcnt {X : Cx} : MtR X "tuple.count" rTCnt := by
  intro pins s σ H x xs v us Q I rx rs h
  obtain ⟨p, ns, k, rfl, rfl, hp, q⟩ := h
  cases rx
  obtain ⟨u, rfl, t, rfl⟩ := vals1 rs
  obtain ⟨its, rv, ⟨⟨cls, dd, data, sl⟩, ho, hc, n, hd⟩, hlen⟩ := I.tuple hp.sq
  simp only at hc hd
  subst hc hd
  have hi := ints_of_vals rv
  refine call_meets PySem.F.slot_tuple_count ⟨_, ho, rfl⟩ PySem.F.entry_tuple_count (PySem.F.args_tuple_count_2 _ _)
    (SeqAt.tuple_countAt p its.toArray n dd sl (.int k t) (eqk k)) ⟨ho, fun y hy => (eqk_gives hi y (by simpa using hy)).at _ _, ?_⟩
  have ec : its.toArray.toList.countP (eqk k) = ns.count k := eqk_count hi
  refine ⟨.int (ns.count k : Nat), H, I.tok _, ⟨s.toks, ?_⟩, q⟩
  show Value.int ((its.toArray.toList.countP (eqk k) : Nat) : Int) s.toks = Value.int ((ns.count k : Nat) : Int) s.toks
  rw [ec]
end FK

/-! FkI: sorted of tuples, the data level of operators and built-ins. -/
namespace FK
open PySem PySem.Spec PyProof.Rows L2

/-! ### sorted over what is collected -/
section
variable {prog : Program} {w : World} {A : Around} {E : Value → Shared → Prop} {s : Shared}
theorem sorted_coll {a : Addr} {vs : List Value} {ns : List Int} {Q : Value → Shared → Prop} (hi : IntsAre vs ns) (hz : vs.length ≤ sizeLine)
    (hcol : ∀ (A' : Around) (Q' : List Value → Shared → Prop) (E' : Value → Shared → Prop), (∀ h' tk, (∀ b o, s.heap.get? b = some o → h'.get? b = some o) → Q' vs { s with heap := h', toks := tk }) → wpAny (model prog w) A' (collect (.ref a)) Q' E' s)
    (h : ∀ (out : List Value) (ns' : List Int) (n : Nat) (h1 h' : Heap) (tk : Nat), (∀ b o, s.heap.get? b = some o → h1.get? b = some o) → (∀ b o, h1.get? b = some o → h'.get? b = some o) → h'.get? h1.objs.size = some { cls := .type "list", data := .seq out.toArray n } → IntsAre out ns' → ns'.Perm ns → ns'.Pairwise (· ≤ ·) →
      Q (.ref h1.objs.size) { s with heap := h', toks := tk }) :
    wpAny (model prog w) A (call (.builtin "sorted") [.ref a]) Q E s := by
  refine Calls.call_function_entry kind_sorted plain_sorted entry_sorted (args_sorted1 _) ?_
  unfold Builtin.«sorted»
  refine wpAny_bind (m := checkCount "sorted" 1 1 _) (wpAny_pure ?_)
  refine wpAny_bind (hcol _ _ _ fun h1 tk k1 => ?_)
  refine wpAny_bind (wpAny_newList ?_ hz)
  have hoL : (h1.push (seqObj "list" vs.toArray 0)).get? h1.objs.size = some (seqObj "list" vs.toArray 0) := Heap.get?_push_size _ rfl
  show wpAny _ _ _ _ _ { s with heap := h1.push (seqObj "list" vs.toArray 0), toks := tk }
  refine wpAny_bind (wpAny_holding (wpAny_call_entry slot_list_sort ⟨_, hoL, rfl⟩ entry_list_sort (SrtO.list_sort_ord SrtO.swo_int hoL hz (fun h2 => SrtO.ints_sortable hi h2) fun out hs hb => ⟨_, rfl, ?_⟩) (args_list_sort _)))
  obtain ⟨j1, j2, j3⟩ := SrtO.ints_out hi hs hb
  obtain ⟨n, hn⟩ := sortedHeap_at (out := out.toArray) hoL
  refine wpAny_pure ⟨_, rfl, h out _ n h1 _ tk k1 (fun b o q => ?_) hn j1 j2 j3⟩
  have hlt := Heap.lt_size q
  rw [sortedHeap_old (Nat.ne_of_lt hlt) (by rw [size_push']; exact Nat.lt_succ_of_lt hlt)]
  exact Heap.get?_push_of_some _ q
end
/-- sorted(xs), a list or a tuple of ints -/
def rSortB : List V → Hp → VK → Prop := fun vs H Q => ∃ (b : Bool) (a : Addr) (ns : List Int), vs = [V.ref a] ∧ SrcB b H a (ns.map V.int) ∧
  ∀ (ns' : List Int) (p : Addr), ns'.Perm ns → ns'.Pairwise (· ≤ ·) → H p = none → Q (.ref p) (upd H p (.lst (ns'.map V.int)))
theorem cr_sortB {X : Cx} : CallR X (.builtin "sorted") rSortB := by
  intro pins s σ H vs us Q I r h
  obtain ⟨b, a, ns, rfl, hs, q⟩ := h
  cases b with
  | true => exact cr_sortedI pins s σ H _ us Q I r ⟨a, ns, rfl, SqL.of hs, q⟩
  | false =>
    obtain ⟨its, rv, hl, hz⟩ := I.tuple (TupAt.sq (show TupAt H a _ from hs))
    rw [vals_ref1 r]
    have hi : IntsAre its ns := rv.ints
    obtain ⟨o, ho, hc, n0, hd⟩ := id hl
    refine sorted_coll hi (by rw [← rv.length]; exact hz) (fun A' Q' E' hq => wpAny_collect_seq a (.inr rfl) ho hc hd (fun h' k => hq h' s.toks k) (by rw [List.size_toArray, ← rv.length]; exact hz)) fun out ns' n h1 h' tk k1 k2 hn j1 j2 j3 => ?_
    have I1 : Inv X pins σ H { s with heap := h1, toks := tk } := I.kept k1
    have hlen : (ns'.map V.int).length ≤ sizeLine := by
      rw [List.length_map, j2.length_eq]
      rw [List.length_map] at hz
      exact hz
    exact ⟨.ref _, upd H h1.objs.size (.lst (ns'.map V.int)), I1.laid (s := { s with heap := h1, toks := tk }) (t' := tk) (a := h1.objs.size) k2 (Nat.le_refl _) ⟨hlen, out, n, vals_of_ints j1, hn⟩, rfl, q _ _ j2 j3 (I1.hok.fresh (Nat.le_refl _))⟩

/-! ### the data level -/
section
variable {M : Mx} {δ : List SD} {R : D → Prop} {ta tb te : TE} {B : Bg}
def dCatT : D → D → (D → Prop) → Prop := fun x y R => ∃ xs ys, x = .tuple xs ∧ y = .tuple ys ∧ xs.length + ys.length ≤ sizeLine ∧ R (.tuple (xs ++ ys))
theorem RpA.nil_iff {G : Hp} {vs : List V} {ds : List D} (r : RpA G vs ds) : vs = [] ↔ ds = [] := by
  have h := r.length
  constructor
  · intro e; subst e; exact List.eq_nil_of_length_eq_zero h.symm
  · intro e; subst e; exact List.eq_nil_of_length_eq_zero h
theorem rd_catF : RD B rCatF dCatT := fun G H x y vx vy R Q ok px py k q => by
  obtain ⟨xs, ys, rfl, rfl, hz, r⟩ := k
  obtain ⟨a, us, rfl, ha, ra⟩ := px.tup_inv
  obtain ⟨b, ws, rfl, hb, rb⟩ := py.tup_inv
  refine ⟨a, b, us, ws, rfl, rfl, ha.same ok.gh, hb.same ok.gh, by rw [ra.length, rb.length]; exact hz, fun e => ?_, fun _ e => ?_, fun _ _ p o ho hp => ?_⟩
  · have e2 := ra.nil_iff.mp e
    subst e2
    exact q _ _ _ _ r (Stp.refl _ _ _) ok (.tup hb rb)
  · have e2 := rb.nil_iff.mp e
    subst e2
    rw [List.append_nil] at r
    exact q _ _ _ _ r (Stp.refl _ _ _) ok (.tup ha ra)
  · obtain ⟨st, k1⟩ := Stp.new ok (.frz o (.tup (us ++ ws))) hp
    exact q _ _ _ _ r st k1 (.tup ⟨o, ho, upd_same⟩ (RpA.mono st.gg _ _ (ra.append rb)))
def dAdd3 : D → D → (D → Prop) → Prop := dOr (dI fun i j => .int (i + j)) (dOr dCatL dCatT)
theorem rd_add3 : RD B rAdd3 dAdd3 := rd_or (rd_I0 fun _ _ _ => .int _) (rd_or rd_catL rd_catF)
theorem dAdd_int {i j : Int} (r : R (.int (i + j))) : dAdd3 (.int i) (.int j) R := .inl ⟨i, j, rfl, rfl, r⟩
theorem dAdd_list {xs ys : List D} (h : xs.length + ys.length ≤ sizeLine) (r : R (.list (xs ++ ys))) : dAdd3 (.list xs) (.list ys) R := .inr (.inl ⟨xs, ys, rfl, rfl, h, r⟩)
theorem dAdd_tup {xs ys : List D} (h : xs.length + ys.length ≤ sizeLine) (r : R (.tuple (xs ++ ys))) : dAdd3 (.tuple xs) (.tuple ys) R := .inr (.inr ⟨xs, ys, rfl, rfl, h, r⟩)
def dRepT : D → D → (D → Prop) → Prop := fun x y R => ∃ xs k, x = .tuple xs ∧ y = .int k ∧ xs ≠ [] ∧ 0 ≤ k ∧ k ≤ 1000 ∧ xs.length ≤ 1000 ∧ R (.tuple (List.replicate k.toNat xs).flatten)
theorem rd_repT : RD B rRepA dRepT := fun G H x y vx vy R Q ok px py k q => by
  obtain ⟨xs, n, rfl, rfl, hne, h0, h1, hz, r⟩ := k
  obtain ⟨a, us, rfl, ha, ra⟩ := px.tup_inv
  refine ⟨a, n, us, rfl, py.int_inv, ha.same ok.gh, fun e => hne (ra.nil_iff.mp e), h0, h1, by rw [ra.length]; exact hz, fun e => ?_, fun _ p o ho hp => ?_⟩
  · subst e
    have e1 : (List.replicate (1 : Int).toNat xs).flatten = xs := by simp
    rw [e1] at r
    exact q _ _ _ _ r (Stp.refl _ _ _) ok (.tup ha ra)
  · obtain ⟨st, k1⟩ := Stp.new ok (.frz o (.tup (List.replicate n.toNat us).flatten)) hp
    exact q _ _ _ _ r st k1 (.tup ⟨o, ho, upd_same⟩ (RpA.mono st.gg _ _ (ra.flat _)))
def dMul3 : D → D → (D → Prop) → Prop := dOr (dIC CMul fun i j => .int (i * j)) (dOr dRepL dRepT)
theorem rd_mul3 : RD B rMul3 dMul3 := rd_or (rd_I fun _ _ _ => .int _) (rd_or rd_repL rd_repT)
theorem dMul_int {i j : Int} (c : CMul i j) (r : R (.int (i * j))) : dMul3 (.int i) (.int j) R := .inl ⟨i, j, rfl, rfl, c, r⟩
theorem rep1 {α : Type} (n : Nat) (x : α) : (List.replicate n [x]).flatten = List.replicate n x := by
  induction n with
  | zero => rfl
  | succ n ih => rw [List.replicate_succ, List.flatten_cons, ih, List.replicate_succ]; rfl
/-- [x] * k, (x,) * k -/
theorem dMul_list {x : D} {k : Int} (h1 : -(2 ^ 63) ≤ k ∧ k ≤ 16777216) (r : R (.list (List.replicate k.toNat x))) : dMul3 (.list [x]) (.int k) R := .inr (.inl ⟨[x], k, rfl, rfl, h1.1, by omega, by rw [List.length_singleton, sizeLine_eq]; omega, by rw [rep1]; exact r⟩)
theorem dMul_tup {x : D} {k : Int} (h1 : 0 ≤ k ∧ k ≤ 1000) (r : R (.tuple (List.replicate k.toNat x))) : dMul3 (.tuple [x]) (.int k) R := .inr (.inr ⟨[x], k, rfl, rfl, by simp, h1.1, h1.2, by simp, by rw [rep1]; exact r⟩)
/-- x in xs: ints in a list or tuple; any data in a list -/
theorem inV_ints (k : Int) (ns : List Int) : inV (.int k) (ns.map V.int) = decide (k ∈ ns) := by
  unfold inV
  induction ns with
  | nil => simp
  | cons n ns ih =>
    rw [List.map_cons, List.any_cons, ih]
    have : eqV (.int n) (.int k) = decide (n = k) := by
      show (n == k) = _
      by_cases e : n = k <;> simp [e]
    rw [this]
    by_cases e : n = k
    · subst e; simp
    · have e' : ¬ k = n := fun z => e z.symm
      simp [e, e']
theorem flat_ints (ns : List Int) : (ns.map V.int).all flatV = true := by
  rw [List.all_eq_true]
  intro x hx
  obtain ⟨n, _, rfl⟩ := List.mem_map.mp hx
  rfl
def dInI (neg : Bool) : D → D → (D → Prop) → Prop := fun x y R => ∃ (k : Int) (ns : List Int), x = .int k ∧ (y = .list (ns.map .int) ∨ y = .tuple (ns.map .int)) ∧ R (.bool (if neg then !decide (k ∈ ns) else decide (k ∈ ns)))
theorem rd_inI {K : PySem.W.Frag} {neg : Bool} : RD B (rIn K neg) (dInI neg) := rd_val fun G H x y vx vy R Q ok px py k q => by
  obtain ⟨n, ns, rfl, e, r⟩ := k
  rw [px.int_inv]
  rcases e with rfl | rfl
  · obtain ⟨a, us, rfl, ha, ra⟩ := py.lst_inv
    rw [ra.of_ints] at ha
    exact ⟨a, _, rfl, .inl (SqL.of (ok.gh _ _ ha)), rfl, flat_ints ns, by rw [inV_ints]; exact q _ _ r (.bl _)⟩
  · obtain ⟨a, us, rfl, ha, ra⟩ := py.tup_inv
    rw [ra.of_ints] at ha
    exact ⟨a, _, rfl, .inr (ha.same ok.gh).sq, rfl, flat_ints ns, by rw [inV_ints]; exact q _ _ r (.bl _)⟩
def dInD : D → D → (D → Prop) → Prop := fun x y R => ∃ ds, y = .list ds ∧ SeqAt.shaped x = true ∧ SeqAt.shaped (.list ds) = true ∧ R (.bool (ds.any fun z => PyData.eqv z x))
def dNotInD : D → D → (D → Prop) → Prop := fun x y R => ∃ ds, y = .list ds ∧ SeqAt.shaped x = true ∧ SeqAt.shaped (.list ds) = true ∧ R (.bool (!ds.any fun z => PyData.eqv z x))
theorem rd_inD {K : PySem.W.Frag} : RD B (rInD K) dInD := rd_val fun G H x y vx vy R Q ok px py k q => by
  obtain ⟨ds, rfl, h1, h2, r⟩ := k
  exact ⟨x, ds, (px.mono ok.gh).dp, (py.mono ok.gh).dp, h1, h2, q _ _ r (.bl _)⟩
theorem rd_notInD {K : PySem.W.Frag} : RD B (rNotInD K) dNotInD := rd_val fun G H x y vx vy R Q ok px py k q => by
  obtain ⟨ds, rfl, h1, h2, r⟩ := k
  exact ⟨x, ds, (px.mono ok.gh).dp, (py.mono ok.gh).dp, h1, h2, q _ _ r (.bl _)⟩
def dIn2 : D → D → (D → Prop) → Prop := dOr (dInI false) dInD
def dNotIn2 : D → D → (D → Prop) → Prop := dOr (dInI true) dNotInD
theorem rd_in2 {K : PySem.W.Frag} : RD B (rIn2 K) dIn2 := rd_or rd_inI rd_inD
theorem rd_notIn2 {K : PySem.W.Frag} : RD B (rNotIn2 K) dNotIn2 := rd_or rd_inI rd_notInD
theorem dIn_list {k : Int} {ns : List Int} (r : R (.bool (decide (k ∈ ns)))) : dIn2 (.int k) (.list (ns.map .int)) R := .inl ⟨k, ns, rfl, .inl rfl, r⟩
theorem dIn_tup {k : Int} {ns : List Int} (r : R (.bool (decide (k ∈ ns)))) : dIn2 (.int k) (.tuple (ns.map .int)) R := .inl ⟨k, ns, rfl, .inr rfl, r⟩
theorem dNotIn_list {k : Int} {ns : List Int} (r : R (.bool (!decide (k ∈ ns)))) : dNotIn2 (.int k) (.list (ns.map .int)) R := .inl ⟨k, ns, rfl, .inl rfl, r⟩
theorem dNotIn_tup {k : Int} {ns : List Int} (r : R (.bool (!decide (k ∈ ns)))) : dNotIn2 (.int k) (.tuple (ns.map .int)) R := .inl ⟨k, ns, rfl, .inr rfl, r⟩
theorem rs_2 {K : PySem.W.Frag} : RS B (rSl2 K) := fun G H x vx lo hi R Q ok px k q => by
  rcases k with ⟨xs, rfl, r⟩ | ⟨xs, rfl, r⟩
  · obtain ⟨a, us, rfl, ha, ra⟩ := px.lst_inv
    refine .inl ⟨a, us, rfl, SqL.of (ok.gh _ _ ha), fun p hp => ?_⟩
    obtain ⟨st, k1⟩ := Stp.new ok (.lst (cutV us lo hi)) hp
    exact q _ _ _ _ r st k1 (.lst upd_same (RpA.mono st.gg _ _ (cut_rp ra lo hi)))
  · obtain ⟨a, us, rfl, ha, ra⟩ := px.tup_inv
    refine .inr ⟨a, us, rfl, ha.same ok.gh, fun e => ?_, fun _ p o ho hp => ?_⟩
    · rw [ra.length] at e
      rw [cut_all e] at r
      exact q _ _ _ _ r (Stp.refl _ _ _) ok (.tup ha ra)
    · obtain ⟨st, k1⟩ := Stp.new ok (.frz o (.tup (cutV us lo hi))) hp
      exact q _ _ _ _ r st k1 (.tup ⟨o, ho, upd_same⟩ (RpA.mono st.gg _ _ (cut_rp ra lo hi)))
theorem dSl_list {xs : List D} {lo hi : Option Int} (r : R (.list (cutD xs lo hi))) : dSl (.list xs) lo hi R := .inl ⟨xs, rfl, r⟩
theorem dSl_tup {xs : List D} {lo hi : Option Int} (r : R (.tuple (cutD xs lo hi))) : dSl (.tuple xs) lo hi R := .inr ⟨xs, rfl, r⟩
theorem dIx_list {xs : List D} {i : Int} {d : D} (h : atI xs i = some d) (r : R d) : dIx (.list xs) (.int i) R := ⟨i, d, rfl, .inl ⟨xs, rfl, h⟩, r⟩
theorem dIx_tup {xs : List D} {i : Int} {d : D} (h : atI xs i = some d) (r : R d) : dIx (.tuple xs) (.int i) R := ⟨i, d, rfl, .inr ⟨xs, rfl, h⟩, r⟩
theorem dI_mk {g : Int → Int → D} {i j : Int} (r : R (g i j)) : dI g (.int i) (.int j) R := ⟨i, j, rfl, rfl, r⟩
theorem dIC_mk {C : Int → Int → Prop} {g : Int → Int → D} {i j : Int} (c : C i j) (r : R (g i j)) : dIC C g (.int i) (.int j) R := ⟨i, j, rfl, rfl, c, r⟩
theorem eqv_int (i j : Int) : PyData.eqv (.int i) (.int j) = decide (i = j) := by
  show (i == j) = _
  by_cases e : i = j <;> simp [e]
theorem dEq_int {i j : Int} (r : R (.bool (decide (i = j)))) : dEq (.int i) (.int j) R := ⟨rfl, rfl, by rw [eqv_int]; exact r⟩
theorem dNe_int {i j : Int} (r : R (.bool (!decide (i = j)))) : dNe (.int i) (.int j) R := ⟨rfl, rfl, by rw [eqv_int]; exact r⟩

/-! ### built-ins -/
theorem rc_len {K : PySem.W.Frag} : RC B (fun xs H Q => ∃ p ys, xs = [.ref p] ∧ (SqL K H p ys ∨ SqT K H p ys) ∧ Q (.int ys.length) H) (fun ds R => ∃ d, ds = [d] ∧ isSeq d (fun xs => R (.int xs.length))) := fun G H ds vs R Q ok p k q => by
  obtain ⟨d, rfl, xs, e, r⟩ := k
  cases p with
  | cons p1 p2 =>
    cases p2
    rcases e with rfl | rfl
    · obtain ⟨a, us, rfl, ha, ra⟩ := p1.lst_inv
      exact ⟨a, us, rfl, .inl (SqL.of (ok.gh _ _ ha)), by rw [ra.length]; exact q _ _ _ _ r (Stp.refl _ _ _) ok (.int _)⟩
    · obtain ⟨a, us, rfl, ha, ra⟩ := p1.tup_inv
      exact ⟨a, us, rfl, .inr (ha.same ok.gh).sq, by rw [ra.length]; exact q _ _ _ _ r (Stp.refl _ _ _) ok (.int _)⟩
theorem rc_tuple : RC B rTupOf (fun ds R => ∃ d, ds = [d] ∧ isSeq d (fun xs => R (.tuple xs))) := fun G H ds vs R Q ok p k q => by
  obtain ⟨d, rfl, xs, e, r⟩ := k
  cases p with
  | cons p1 p2 =>
    cases p2
    rcases e with rfl | rfl
    · obtain ⟨a, us, rfl, ha, ra⟩ := p1.lst_inv
      refine ⟨a, us, rfl, .inl ⟨ok.gh _ _ ha, fun l o ho hl => ?_⟩⟩
      obtain ⟨st, k1⟩ := Stp.new ok (.frz o (.tup us)) hl
      exact q _ _ _ _ r st k1 (.tup ⟨o, ho, upd_same⟩ (RpA.mono st.gg _ _ ra))
    · obtain ⟨a, us, rfl, ha, ra⟩ := p1.tup_inv
      exact ⟨a, us, rfl, .inr ⟨ha.same ok.gh, q _ _ _ _ r (Stp.refl _ _ _) ok (.tup ha ra)⟩⟩
theorem isSeq_list {xs : List D} {R : List D → Prop} (r : R xs) : isSeq (.list xs) R := ⟨xs, .inl rfl, r⟩
theorem isSeq_tup {xs : List D} {R : List D → Prop} (r : R xs) : isSeq (.tuple xs) R := ⟨xs, .inr rfl, r⟩
/-- list(xs): a new list of one's own -/
theorem wl_list {K : PySem.W.Frag} {R : List D → Prop} (h : WE M te δ (fun d => isSeq d R)) : WL M (tCB (fun xs H Q => ∃ p ys, xs = [.ref p] ∧ (SqL K H p ys ∨ SqT K H p ys) ∧ ∀ l, H l = none → Q (.ref l) (upd H l (.lst ys))) (tCons te tNil)) δ R := fun G H σ s Q q =>
  h G H σ s _ fun d v G1 H1 ⟨xs, e, r⟩ st ok p => by
    have hn : ∀ l, H1 l = none → H l = none := fun l hl => by
      cases e : H l with
      | none => rfl
      | some o => exact absurd hl (st.th l (ne_none e))
    rcases e with rfl | rfl
    · obtain ⟨a, us, rfl, ha, ra⟩ := p.lst_inv
      refine ⟨a, us, rfl, .inl (SqL.of (ok.gh _ _ ha)), fun l hl => ?_⟩
      obtain ⟨st2, ok2⟩ := Stp.newH ok (.lst us) hl
      exact q _ _ _ _ _ r (st.trans st2) ok2 (hn l hl) (ok.free hl) upd_same ra
    · obtain ⟨a, us, rfl, ha, ra⟩ := p.tup_inv
      refine ⟨a, us, rfl, .inr (ha.same ok.gh).sq, fun l hl => ?_⟩
      obtain ⟨st2, ok2⟩ := Stp.newH ok (.lst us) hl
      exact q _ _ _ _ _ r (st.trans st2) ok2 (hn l hl) (ok.free hl) upd_same ra
/-- [x] * n: a new list of one's own -/
theorem wl_rep {R : List D → Prop} (h : WE M ta δ (fun x => WE M tb δ (fun y => ∃ z k, x = .list [z] ∧ y = .int k ∧ (-(2 ^ 63) ≤ k ∧ k ≤ 16777216) ∧ R (List.replicate k.toNat z)))) : WL M (tOp rMul3 ta tb) δ R := fun G H σ s Q q =>
  h G H σ s _ fun x vx G1 H1 r1 st1 ok1 p1 => r1 G1 H1 σ (s.step st1 ok1) _ fun y vy G2 H2 ⟨z, k, e1, e2, hk, r⟩ st2 ok2 p2 => by
    subst e1
    subst e2
    obtain ⟨a, us, rfl, ha, ra⟩ := (p1.mono st2.gg).lst_inv
    refine .inr (.inl ⟨a, k, us, rfl, p2.int_inv, ok2.gh _ _ ha, hk.1, by omega, by rw [ra.length, List.length_singleton, sizeLine_eq]; omega, fun l hl => ?_⟩)
    obtain ⟨st3, ok3⟩ := Stp.newH ok2 (.lst (List.replicate k.toNat us).flatten) hl
    have hn : H l = none := by
      cases e : H l with
      | none => rfl
      | some o => exact absurd hl ((st1.trans st2).th l (ne_none e))
    have rr := ra.flat k.toNat
    rw [rep1] at rr
    exact q _ _ _ _ _ r (st1.trans (st2.trans st3)) ok3 hn (ok2.free hl) upd_same rr
def rgDs (a b : Int) : List D := rgD a (b - a).toNat
theorem rg_rp (G : Hp) (a b : Int) : RpA G (rgV a b) (rgDs a b) := by
  unfold rgV rgDs rgD
  generalize (b - a).toNat = n
  have := RpA.ints (G := G) ((List.range n).map fun (i : Nat) => a + (i : Int))
  rw [List.map_map, List.map_map] at this
  exact this
/-- list(range(n)), tuple(range(n)) -/
theorem wl_listRg {R : List D → Prop} (h : WE M te δ (fun d => ∃ n : Int, d = .int n ∧ (0 ≤ n ∧ n ≤ 16777216) ∧ R (rgD 0 n.toNat))) : WL M (tLstRg (tRg1 te)) δ R := fun G H σ s Q q =>
  h G H σ s _ fun d v G1 H1 ⟨n, e, hn, r⟩ st ok p => by
    subst e
    refine ⟨n, p.int_inv, RgOk.of_le (Int.le_refl 0) hn.2 (by decide) hn.1, fun l hl => ?_⟩
    obtain ⟨st2, ok2⟩ := Stp.newH ok (.lst (rgV 0 n)) hl
    have hn0 : H l = none := by
      cases e : H l with
      | none => rfl
      | some o => exact absurd hl (st.th l (ne_none e))
    have e1 : rgDs 0 n = rgD 0 n.toNat := by unfold rgDs; rw [Int.sub_zero]
    exact q _ _ _ _ _ r (st.trans st2) ok2 hn0 (ok.free hl) upd_same (e1 ▸ rg_rp _ 0 n)
theorem we_tupRg (h : WE M te δ (fun d => ∃ n : Int, d = .int n ∧ (0 ≤ n ∧ n ≤ 16777216) ∧ R (.tuple (rgD 0 n.toNat)))) : WE M (tTupRgF (tRg1 te)) δ R := fun G H σ s Q q =>
  h G H σ s _ fun d v G1 H1 ⟨n, e, hn, r⟩ st ok p => by
    subst e
    refine ⟨n, p.int_inv, RgOk.of_le (Int.le_refl 0) hn.2 (by decide) hn.1, fun l o ho hl => ?_⟩
    obtain ⟨st2, ok2⟩ := Stp.new ok (.frz o (.tup (rgV 0 n))) hl
    have e1 : rgDs 0 n = rgD 0 n.toNat := by unfold rgDs; rw [Int.sub_zero]
    exact q _ _ _ _ r (st.trans st2) ok2 (.tup ⟨o, ho, upd_same⟩ (e1 ▸ rg_rp _ 0 n))
/-! ### numbers -/
def dInt (ds : List D) (R : D → Prop) : Prop := (∃ i, ds = [.int i] ∧ R (.int i)) ∨ (∃ b : Bool, ds = [.bool b] ∧ R (.int (if b then 1 else 0)))
theorem RpA.inv1 {G : Hp} {vs : List V} {d : D} (p : RpA G vs [d]) : ∃ v, vs = [v] ∧ Rp G v d := by
  cases p with
  | cons p1 p2 => cases p2; exact ⟨_, rfl, p1⟩
theorem rc_int : RC B (fun xs H Q => (∃ i, xs = [.int i] ∧ Q (.int i) H) ∨ ∃ k, xs = [.bl k] ∧ Q (.int (if k then 1 else 0)) H) dInt := fun G H ds vs R Q ok p k q => by
  rcases k with ⟨i, rfl, r⟩ | ⟨b, rfl, r⟩
  · obtain ⟨v, rfl, p1⟩ := p.inv1
    cases p1
    exact .inl ⟨i, rfl, q _ _ _ _ r (Stp.refl _ _ _) ok (.int _)⟩
  · obtain ⟨v, rfl, p1⟩ := p.inv1
    cases p1
    exact .inr ⟨b, rfl, q _ _ _ _ r (Stp.refl _ _ _) ok (.int _)⟩
theorem dInt_int {i : Int} (r : R (.int i)) : dInt [.int i] R := .inl ⟨i, rfl, r⟩
theorem dInt_bool {b : Bool} (r : R (.int (if b then 1 else 0))) : dInt [.bool b] R := .inr ⟨b, rfl, r⟩
theorem abs_if (i : Int) : (if i < 0 then -i else i) = (i.natAbs : Int) := by split <;> omega
theorem rc_abs : RC B (fun xs H Q => ∃ i, xs = [.int i] ∧ Q (.int (if i < 0 then -i else i)) H) (fun ds R => ∃ i : Int, ds = [.int i] ∧ R (.int (i.natAbs : Int))) := fun G H ds vs R Q ok p k q => by
  obtain ⟨i, rfl, r⟩ := k
  obtain ⟨v, rfl, p1⟩ := p.inv1
  cases p1
  exact ⟨i, rfl, by rw [abs_if]; exact q _ _ _ _ r (Stp.refl _ _ _) ok (.int _)⟩
def dM (f : Int → Int → Int) (ds : List D) (R : D → Prop) : Prop := (∃ i j, ds = [.int i, .int j] ∧ R (.int (f i j))) ∨ (∃ i j k, ds = [.int i, .int j, .int k] ∧ R (.int (f (f i j) k)))
theorem dM2 {f : Int → Int → Int} {i j : Int} (r : R (.int (f i j))) : dM f [.int i, .int j] R := .inl ⟨i, j, rfl, r⟩
theorem dM3 {f : Int → Int → Int} {i j k : Int} (r : R (.int (f (f i j) k))) : dM f [.int i, .int j, .int k] R := .inr ⟨i, j, k, rfl, r⟩
theorem rc_max : RC B rMax23 (dM max) := fun G H ds vs R Q ok p k q => by
  rcases k with ⟨i, j, rfl, r⟩ | ⟨i, j, n, rfl, r⟩
  · exact .inl ⟨i, j, RpA.of_ints (ns := [i, j]) p, q _ _ _ _ r (Stp.refl _ _ _) ok (.int _)⟩
  · exact .inr ⟨i, j, n, RpA.of_ints (ns := [i, j, n]) p, q _ _ _ _ r (Stp.refl _ _ _) ok (.int _)⟩
theorem rc_min : RC B rMin23 (dM min) := fun G H ds vs R Q ok p k q => by
  rcases k with ⟨i, j, rfl, r⟩ | ⟨i, j, n, rfl, r⟩
  · exact .inl ⟨i, j, RpA.of_ints (ns := [i, j]) p, q _ _ _ _ r (Stp.refl _ _ _) ok (.int _)⟩
  · exact .inr ⟨i, j, n, RpA.of_ints (ns := [i, j, n]) p, q _ _ _ _ r (Stp.refl _ _ _) ok (.int _)⟩
def isInts (d : D) (R : List Int → Prop) : Prop := ∃ ns : List Int, (d = .list (ns.map .int) ∨ d = .tuple (ns.map .int)) ∧ R ns
theorem srcB_ints {G : Hp} {v : V} {d : D} {ns : List Int} (p : Rp G v d) (h : d = .list (ns.map .int) ∨ d = .tuple (ns.map .int)) : ∃ b a, v = .ref a ∧ SrcB b G a (ns.map V.int) := by
  obtain ⟨b, a, us, rfl, hb, ra⟩ := srcB_of p h
  rw [ra.of_ints] at hb
  exact ⟨b, a, rfl, hb⟩
theorem rc_sum : RC B rSum2 (fun ds R => ∃ d, ds = [d] ∧ isInts d (fun ns => R (.int ns.sum))) := fun G H ds vs R Q ok p k q => by
  obtain ⟨d, rfl, ns, e, r⟩ := k
  obtain ⟨v, rfl, p1⟩ := p.inv1
  obtain ⟨b, a, rfl, hb⟩ := srcB_ints p1 e
  exact ⟨b, a, ns, rfl, hb.same ok.gh, q _ _ _ _ r (Stp.refl _ _ _) ok (.int _)⟩
/-- sorted: the one sorted list -/
def srt (ns : List Int) : List Int := ns.mergeSort (fun a b => decide (a ≤ b))
theorem srt_perm (ns : List Int) : (srt ns).Perm ns := List.mergeSort_perm _ _
theorem srt_sorted (ns : List Int) : (srt ns).Pairwise (· ≤ ·) := by
  have h := List.pairwise_mergeSort (le := fun (a b : Int) => decide (a ≤ b)) (fun a b c h1 h2 => by simp only [decide_eq_true_eq] at *; omega) (fun a b => by simp only [Bool.or_eq_true, decide_eq_true_eq]; omega) ns
  exact h.imp fun h => of_decide_eq_true h
theorem srt_one {ns ms : List Int} (h : ms.Perm ns) (hs : ms.Pairwise (· ≤ ·)) : ms = srt ns := List.Perm.eq_of_pairwise (fun a b _ _ h1 h2 => Int.le_antisymm h1 h2) hs (srt_sorted ns) (h.trans (srt_perm ns).symm)
theorem rc_sorted : RC B rSortB (fun ds R => ∃ d, ds = [d] ∧ isInts d (fun ns => R (.list ((srt ns).map .int)))) := fun G H ds vs R Q ok p k q => by
  obtain ⟨d, rfl, ns, e, r⟩ := k
  obtain ⟨v, rfl, p1⟩ := p.inv1
  obtain ⟨b, a, rfl, hb⟩ := srcB_ints p1 e
  refine ⟨b, a, ns, rfl, hb.same ok.gh, fun ns' p' hp hs hn => ?_⟩
  rw [srt_one hp hs]
  obtain ⟨st, k1⟩ := Stp.new ok (.lst ((srt ns).map V.int)) hn
  exact q _ _ _ _ r st k1 (.lst upd_same (RpA.ints _))
theorem rc_all {K : PySem.W.Frag} : RC B (rAll K) (fun ds R => ∃ bs : List Bool, ds = [.list (bs.map .bool)] ∧ R (.bool (bs.all id))) := fun G H ds vs R Q ok p k q => by
  obtain ⟨bs, rfl, r⟩ := k
  obtain ⟨v, rfl, p1⟩ := p.inv1
  obtain ⟨a, us, rfl, ha, ra⟩ := p1.lst_inv
  rw [ra.of_bools] at ha
  exact ⟨a, bs, rfl, SqL.of (ok.gh _ _ ha), q _ _ _ _ r (Stp.refl _ _ _) ok (.bl _)⟩
/-- t.index(k), t.count(k); xs.count(k) -/
theorem we_tidx (h : WE M ta δ (fun x => ∃ ns : List Int, x = .tuple (ns.map .int) ∧ WE M tb δ (fun y => ∃ k : Int, y = .int k ∧ k ∈ ns ∧ R (.int (ns.idxOf k : Nat))))) : WE M (tTM rTIdx ta (tCons tb tNil)) δ R := fun G H σ s Q q =>
  h G H σ s _ fun x vx G1 H1 ⟨ns, e, r1⟩ st1 ok1 p1 => by
    subst e
    obtain ⟨a, us, rfl, ha, ra⟩ := p1.tup_inv
    rw [ra.of_ints] at ha
    exact ⟨⟨a, _, rfl, ha.same ok1.gh⟩, r1 G1 H1 σ (s.step st1 ok1) _ fun y vy G2 H2 ⟨k, e, hk, r⟩ st2 ok2 p2 => by
      subst e
      exact ⟨a, ns, k, rfl, by rw [p2.int_inv], (ha.same st2.gg).same ok2.gh, hk, q _ _ _ _ r (st1.trans st2) ok2 (.int _)⟩⟩
theorem we_tcnt (h : WE M ta δ (fun x => ∃ ns : List Int, x = .tuple (ns.map .int) ∧ WE M tb δ (fun y => ∃ k : Int, y = .int k ∧ R (.int (ns.count k : Nat))))) : WE M (tTM rTCnt ta (tCons tb tNil)) δ R := fun G H σ s Q q =>
  h G H σ s _ fun x vx G1 H1 ⟨ns, e, r1⟩ st1 ok1 p1 => by
    subst e
    obtain ⟨a, us, rfl, ha, ra⟩ := p1.tup_inv
    rw [ra.of_ints] at ha
    exact ⟨⟨a, _, rfl, ha.same ok1.gh⟩, r1 G1 H1 σ (s.step st1 ok1) _ fun y vy G2 H2 ⟨k, e, r⟩ st2 ok2 p2 => by
      subst e
      exact ⟨a, ns, k, rfl, by rw [p2.int_inv], (ha.same st2.gg).same ok2.gh, q _ _ _ _ r (st1.trans st2) ok2 (.int _)⟩⟩
theorem we_lcnt {K : PySem.W.Frag} (h : WE M ta δ (fun x => ∃ ns : List Int, x = .list (ns.map .int) ∧ WE M tb δ (fun y => ∃ k : Int, y = .int k ∧ R (.int (ns.count k : Nat))))) : WE M (tBM K "list" (rCntI K) ta (tCons tb tNil)) δ R := fun G H σ s Q q =>
  h G H σ s _ fun x vx G1 H1 ⟨ns, e, r1⟩ st1 ok1 p1 => by
    subst e
    obtain ⟨a, us, rfl, ha, ra⟩ := p1.lst_inv
    rw [ra.of_ints] at ha
    exact ⟨.inl ⟨rfl, _, SqL.of (ok1.gh _ _ ha)⟩, r1 G1 H1 σ (s.step st1 ok1) _ fun y vy G2 H2 ⟨k, e, r⟩ st2 ok2 p2 => by
      subst e
      exact ⟨a, ns, k, rfl, by rw [p2.int_inv], SqL.of (ok2.gh _ _ (st2.gg _ _ ha)), q _ _ _ _ r (st1.trans st2) ok2 (.int _)⟩⟩
/-- *xs in a display -/
theorem wa_star {K : PySem.W.Frag} {tr : TA} {R : List D → Prop} (h : WE M te δ (fun d => isSeq d (fun xs => WA M tr δ (fun ds => R (xs ++ ds))))) : WA M (StX.tStar K te tr) δ R := fun G H σ s Q q =>
  h G H σ s _ fun d v G1 H1 ⟨xs, e, r⟩ st ok p => by
    obtain ⟨b, a, us, rfl, hb, ra⟩ := srcB_of p e
    have hs : SqT K H1 a us ∨ SqL K H1 a us := by
      cases b with
      | true => exact .inr (SqL.of (ok.gh _ _ (show G1 a = some (.lst us) from hb)))
      | false => exact .inl (TupAt.sq (TupAt.same (show TupAt G1 a us from hb) ok.gh))
    exact ⟨a, us, rfl, hs, r G1 H1 σ (s.step st ok) _ fun ds vs G2 H2 r2 st2 ok2 p2 => q (xs ++ ds) (us ++ vs) G2 H2 r2 (st.trans st2) ok2 ((RpA.mono st2.gg _ _ ra).append p2)⟩
end

/-! ### more statements -/
/-- o[i] of a list -/
theorem get_list {X : Cx} : PGet X rGetL := by
  intro pins s σ H o i ov iv Q I ro ri h
  obtain ⟨p, xs, k, v, rfl, rfl, hp, e, q⟩ := h
  cases ro
  obtain ⟨t, rfl⟩ := ri
  obtain ⟨its, r, pl, hz⟩ := I.list (SqL.of hp)
  obtain ⟨w, ew, rw'⟩ := r.get e
  have hlt := (List.getElem?_eq_some_iff.mp ew).1
  have hl := r.length
  have hn := line63
  exact wpAny_getItem_list pl.isList (by omega) (by omega) (by simpa using ew) ⟨v, H, I, rw', q⟩
/-- a, b, c = x, y, z with plain local names: stored from the right -/
def tPar3 (i j k : Nat) (ta : TA) : TS := fun D σ H => ta σ H fun vs H1 => ∃ v w z, vs = [v, w, z] ∧ D.nx (((σ.set k (some z)).set j (some w)).set i (some v)) H1
theorem ps_par3 {X : Cx} {pos : Pos} {i j k : Nat} {x y z : Str} {a b c : Expr} {ta : TA} {px py pz pt : Pos} {kt k2 pt2} (hc : X.calm = true) (hN : X.N.Nodup) (hi : X.N[i]? = some x) (hj : X.N[j]? = some y) (hk : X.N[k]? = some z)
    (hx : X.env.scope.names.lookup x = some .local) (hy : X.env.scope.names.lookup y = some .local) (hz : X.env.scope.names.lookup z = some .local) (ha : PA X [a, b, c] ta)
    (hw : swappedStores [.Tuple [.Name x px, .Name y py, .Name z pz] kt pt] (.Tuple [a, b, c] k2 pt2) X.env = pure (some [x, y, z]))
    (hs : swapsWithSole [.Tuple [.Name x px, .Name y py, .Name z pz] kt pt] (.Tuple [a, b, c] k2 pt2) pos.line X.env = pure false := by rfl) :
    PS X (.Assign [.Tuple [.Name x px, .Name y py, .Name z pz] kt pt] (.Tuple [a, b, c] k2 pt2) pos) (tPar3 i j k ta) := by
  refine ⟨fun pins s σ H D I h => ?_⟩
  rw [exec_Assign_arm]
  refine wpAny_bind (wpAny_standAt ?_)
  rw [hs]
  refine wpAny_bind (wpAny_pure ?_)
  rw [if_neg (by decide)]
  refine wpAny_bind (Tuple_ (thn (ha.run _ pins s σ H _ I h) fun us s1 ⟨vs, H1, I1, r1, q1⟩ => ?_))
  obtain ⟨v, w, u, e1, q1⟩ := q1
  subst e1
  obtain ⟨u1, u2, u3, rfl, rv, rw', ru⟩ := vals3 r1
  refine wpAny_newObj_type ?_ (by show 3 ≤ sizeLine; decide)
  have I2 : Inv X pins σ H1 { s1 with heap := s1.heap.push { cls := .type "tuple", data := .seq [u1, u2, u3].toArray } } := I1.kept (t' := s1.toks) fun b o e => Heap.get?_push_of_some _ e
  rw [hw]
  refine wpAny_bind (wpAny_pure ?_)
  show wpAny (model X.prog X.w) X.A (do rule "assign.swapped-stores"; let items ← unpackItems (.ref s1.heap.objs.size) 3 none; assignInOrder [fun v => bindName X.env z v, fun v => bindName X.env y v, fun v => bindName X.env x v] items.reverse; pure Flow.next) _ _ _
  refine wpAny_bind (wpAny_rule (wpAny_bind (unpackItems_tuple (items := #[u1, u2, u3]) (I.ok.hd hc) (IsTup.new s1.heap _) fun h' hx' => ?_)))
  have I3 := I2.kept (h' := h') (t' := s1.toks) fun b o e => hx' b o (Nat.ne_of_lt (Heap.lt_size e)) e
  show wpAny _ _ (assignInOrder [fun v => bindName X.env z v, fun v => bindName X.env y v, fun v => bindName X.env x v] [u3, u2, u1] >>= fun _ => pure Flow.next) _ _ _
  refine wpAny_bind (assignInOrder_cons (wpAny_bindName (store_ok I3 hN hk (.inl hz) ru (fun s2 I4 => ?_) (.inr hz))))
  refine assignInOrder_cons (wpAny_bindName (store_ok I4 hN hj (.inl hy) rw' (fun s3 I5 => ?_) (.inr hy)))
  refine assignInOrder_cons (wpAny_bindName (store_ok I5 hN hi (.inl hx) rv (fun s4 I6 => assignInOrder_nil (wpAny_pure ?_)) (.inr hx)))
  exact ⟨_, H1, I6, q1⟩
theorem ss_par3 {M : Mx} {δ : List SD} {N : List SD → Prop} {K : Kn} {i j k : Nat} {ta : TA} (hi : i < δ.length) (hj : j < δ.length) (hk : k < δ.length) (hij : i ≠ j) (hik : i ≠ k) (hjk : j ≠ k)
    (h : WS M ta δ (fun es => ∃ x y z, es = [x, y, z] ∧ N (((δ.set i x).set j y).set k z))) : SS M (tPar3 i j k ta) δ N K := fun G H σ s Dn nx bk ct rt =>
  h G H σ [] [] (by simpa using s) s.len _ fun es vs G1 H1 r e s1 hv => by
    obtain ⟨x, y, z, rfl, n⟩ := r
    match vs, hv with
    | [v, w, u], _ =>
      refine ⟨v, w, u, rfl, nx _ G1 H1 _ n e ?_⟩
      have s2 : SR M G1 H1 (σ ++ some v :: [some w, some u]) (δ ++ x :: [y, z]) := by simpa using s1
      have s3 := s2.pull s.len i hi
      have s4 := SR.pull (τ := [some u]) (ε := [z]) s3 (by rw [List.length_set, List.length_set]; exact s.len) j (by rw [List.length_set]; exact hj)
      have s5 := SR.pull (τ := []) (ε := []) s4 (by rw [List.length_set, List.length_set, List.length_set, List.length_set]; exact s.len) k (by rw [List.length_set, List.length_set]; exact hk)
      rw [List.append_nil, List.append_nil] at s5
      have e1 : ((σ.set i (some v)).set j (some w)).set k (some u) = ((σ.set k (some u)).set j (some w)).set i (some v) := by
        rw [List.set_comm (some v) (some w) hij, List.set_comm (some v) (some u) hik, List.set_comm (some w) (some u) hjk]
      rw [e1] at s5
      exact s5
/-! ### a def by its body -/
structure Cl (P : Program) (w : World) (K : PySem.W.Frag) (mg : Str → Option Value) (base : Heap) (k : Nat) (x : Str) (sp : Sp) : Prop where
  ex : ∃ (f : Addr) (fd : FuncData) (ps : List Str), FnOk P w K mg base CX0 k f fd ps sp ∧ mg x = some (.ref f) ∧ PySem.W.keepIn K (.ref f) = true ∧ Binds K fd ps []
theorem pe_cl {X : Cx} {k j : Nat} {x : Str} {sp : Sp} {p pos : Pos} {e : Expr} {es : List Expr} {t : TA} (c : Cl X.prog X.w X.K X.mg X.base k x sp) (hr : Room j X.A) (hk : k ≤ j) (hg : Gl X x) (ha : PA X (e :: es) t)
    (hdb : (x == ("__debug__" : Str)) = false := by decide) (he : starEach (e :: es) X.env = (false, eval e X.env) :: starEach es X.env := by rfl) (hpl : (backTo pos (starEach es X.env)).any (·.1) = false := by rfl) :
    PE X (.Call (.Name x p) (e :: es) [] pos) (tCall sp [] E0 t) := by
  obtain ⟨f, fd, ps, F, hm, kp, b⟩ := c.ex
  exact pe_call F (hr.mono hk) hg hm kp b .nil pass0 ha hdb he hpl
theorem SR.start {B : Bg} {G H : Hp} {vs : List V} {ds : List D} (ok : Ok B G H) (p : RpA G vs ds) (N : List Str) : SR ⟨B, G, H⟩ G H (L2.start N vs) (ds.map SD.dat ++ List.replicate (N.length - vs.length) .no) := by
  have hl := p.length
  refine ⟨ok, Stp.refl _ _ _, by unfold L2.start; simp [hl], fun i sd h => ?_, fun a b l xs ys h1 _ _ _ => ?_⟩
  · unfold L2.start
    by_cases hi : i < ds.length
    · rw [List.getElem?_append_left (by simpa using hi), List.getElem?_map] at h
      obtain ⟨d, hd⟩ : ∃ d, ds[i]? = some d := ⟨_, List.getElem?_eq_getElem hi⟩
      rw [hd] at h
      cases h
      obtain ⟨v, hv, pv⟩ := p.get hd
      rw [List.getElem?_append_left (by simp; omega), List.getElem?_map, hv]
      exact ⟨v, rfl, pv⟩
    · rw [List.getElem?_append_right (by simp; omega)] at h
      rw [List.getElem?_replicate] at h
      split at h
      · cases h; trivial
      · cases h
  · exfalso
    by_cases hi : a < ds.length
    · rw [List.getElem?_append_left (by simpa using hi), List.getElem?_map] at h1
      cases q : ds[a]? with
      | none => rw [q] at h1; cases h1
      | some d => rw [q] at h1; cases h1
    · rw [List.getElem?_append_right (by simp; omega), List.getElem?_replicate] at h1
      split at h1 <;> cases h1
end FK

/-! FkJ: names of readings; a def by the walk of its body. -/
namespace FK
open PySem PySem.Spec PyProof.Rows L2
abbrev rLen (K : PySem.W.Frag) : List V → Hp → VK → Prop := fun xs H Q => ∃ p ys, xs = [.ref p] ∧ (SqL K H p ys ∨ SqT K H p ys) ∧ Q (.int ys.length) H
abbrev rLstOf (K : PySem.W.Frag) : List V → Hp → VK → Prop := fun xs H Q => ∃ p ys, xs = [.ref p] ∧ (SqL K H p ys ∨ SqT K H p ys) ∧ ∀ l, H l = none → Q (.ref l) (upd H l (.lst ys))
abbrev rInt : List V → Hp → VK → Prop := fun xs H Q => (∃ i, xs = [.int i] ∧ Q (.int i) H) ∨ ∃ k, xs = [.bl k] ∧ Q (.int (if k then 1 else 0)) H
abbrev rAbs : List V → Hp → VK → Prop := fun xs H Q => ∃ i, xs = [.int i] ∧ Q (.int (if i < 0 then -i else i)) H
abbrev rIsN : R2 := fun x y H Q => y = .non ∧ Q (.bl (decide (x = .non))) H
abbrev rNotN : R2 := fun x y H Q => y = .non ∧ Q (.bl (!decide (x = .non))) H

/-! ### a def by the walk of its body and the data level -/
section
variable {P : Program} {w : World} {K : PySem.W.Frag} {mg : Str → Option Value} {base : Heap} {k : Nat} {x qual : Str} {st : Stmt} {f : Addr} {fd : FuncData} {N ps : List Str} {t : TS} {C : Ct}
abbrev Walks (P : Program) (w : World) (K : PySem.W.Frag) (mg : Str → Option Value) (base : Heap) (k : Nat) (N : List Str) (qual : Str) (st : Stmt) (f : Addr) (t : TS) : Prop :=
  ∀ (cdv : Value) (A : Around) (outer : List Env) (s : Shared) (H : Hp) (E : XK), Room k (A.deeper (envOfC qual (defScope st) s.heap.objs.size f cdv)) → PSs (cxOf CX0 P w K mg base N qual (defScope st) f cdv A outer s H E).nox (defBody st) t
theorem cl_sp {sp : Sp} (F : Fun K x qual st f fd) (S : FnScope N ps (defScope st)) (hb : Binds K fd ps []) (hm : mg x = some (.ref f)) (hw : Walks P w K mg base k N qual st f t)
    (hs : ∀ vs H Q E, sp vs H Q E → vs.length = ps.length ∧ t { nx := fun _ H' => Q .non H', rt := Q } (L2.start N vs) H) : Cl P w K mg base (k + 1) x sp :=
  ⟨f, fd, ps, F.ok S (fun vs H Q E h => (hs vs H Q E h).1) fun cdv A outer s H vs Q E hr h => ⟨t, hw cdv A outer s H E hr, (hs vs H Q E h).2⟩, hm, F.kp, hb⟩
def slots (N : List Str) (n : Nat) : List SD := List.replicate (N.length - n) .no
theorem cl_G {B : Bg} (hlen : ∀ a, (C.args a).length = ps.length) (hs : ∀ a, C.pre a → ∀ M : Mx, M.B = B → SS M t ((C.args a).map SD.dat ++ slots N ps.length) (fun _ => C.post a .none) ⟨C.post a, fun _ => False, fun _ => False⟩)
    (vs : List V) (H : Hp) (Q : VK) (h : spG B C vs H Q) : vs.length = ps.length ∧ t { nx := fun _ H' => Q .non H', rt := Q } (L2.start N vs) H := by
  obtain ⟨G, a, ok, ra, hp, q⟩ := h
  have hl := ra.length
  have hl2 := hlen a
  refine ⟨by omega, ?_⟩
  have s := SR.start ok ra N
  rw [show N.length - vs.length = N.length - ps.length by omega] at s
  refine hs a hp ⟨B, G, H⟩ rfl G H _ s _ (fun δ' G' H' σ' n e s' => ?_) (fun _ _ _ _ z => z.elim) (fun _ _ _ _ z => z.elim) fun d v G' H' r e ok' st p => q d v G' H' r st ok' p
  exact q .none .non G' H' n s'.st s'.ok .non
theorem cl_P (F : Fun K x qual st f fd) (S : FnScope N ps (defScope st)) (hb : Binds K fd ps []) (hm : mg x = some (.ref f)) (hw : Walks P w K mg base k N qual st f t)
    (hlen : ∀ a, (C.args a).length = ps.length) (hs : ∀ a, C.pre a → ∀ M : Mx, M.B = {} → SS M t ((C.args a).map SD.dat ++ slots N ps.length) (fun _ => C.post a .none) ⟨C.post a, fun _ => False, fun _ => False⟩) : Cl P w K mg base (k + 1) x (spP C) :=
  cl_sp F S hb hm hw fun vs H Q E h => cl_G hlen hs vs H Q h
theorem cl_T {T : Addr × Str} (F : Fun K x qual st f fd) (S : FnScope N ps (defScope st)) (hb : Binds K fd ps []) (hm : mg x = some (.ref f)) (hw : Walks P w K mg base k N qual st f t)
    (hlen : ∀ a, (C.args a).length = ps.length) (hs : ∀ a, C.pre a → ∀ M : Mx, M.B = { tab := some T } → SS M t ((C.args a).map SD.dat ++ slots N ps.length) (fun _ => C.post a .none) ⟨C.post a, fun _ => False, fun _ => False⟩) : Cl P w K mg base (k + 1) x (spT T C) :=
  cl_sp F S hb hm hw fun vs H Q E h => cl_G hlen hs vs H Q h
theorem SR.consBag {M : Mx} {G H : Hp} {σ : L2.St} {δ : List SD} (s : SR M G H σ δ) {b c : Addr} (e : M.B.bag = some (b, c)) : SR M G H (some (.ref b) :: σ) (.bag :: δ) := by
  refine ⟨s.ok, s.st, congrArg (· + 1) s.len, fun i sd h => ?_, fun i j l xs ys h1 h2 h3 h4 => ?_⟩
  · cases i with
    | zero => cases h; exact ⟨b, c, e, rfl⟩
    | succ i => exact s.sl i sd h
  · cases i with
    | zero => cases h1
    | succ i =>
      cases j with
      | zero => cases h2
      | succ j => exact congrArg (· + 1) (s.ds i j l xs ys h1 h2 h3 h4)
theorem cl_B {T : Addr × Str} (F : Fun K x qual st f fd) (S : FnScope N ps (defScope st)) (hb : Binds K fd ps []) (hm : mg x = some (.ref f)) (hw : Walks P w K mg base k N qual st f t)
    (hlen : ∀ a, (C.args a).length + 1 = ps.length) (hs : ∀ a, C.pre a → ∀ M : Mx, M.B.tab = some T → SS M t (.bag :: ((C.args a).map SD.dat ++ slots N ps.length)) (fun _ => C.post a .none) ⟨C.post a, fun _ => False, fun _ => False⟩) : Cl P w K mg base (k + 1) x (spB T C) :=
  cl_sp F S hb hm hw fun vs H Q E h => by
    obtain ⟨b, c, us, rfl, G, a, ok, ra, hp, q⟩ := h
    have hl := ra.length
    have hl2 := hlen a
    refine ⟨by rw [List.length_cons]; omega, ?_⟩
    have hN : L2.start N (V.ref b :: us) = some (V.ref b) :: (us.map some ++ List.replicate (N.length - ps.length) none) := by
      unfold L2.start
      rw [List.map_cons, List.cons_append, List.length_cons, show us.length + 1 = ps.length by omega]
    rw [hN]
    have s0 : SR ⟨{ bag := some (b, c), tab := some T }, G, H⟩ G H (us.map some ++ List.replicate (N.length - ps.length) none) ((C.args a).map SD.dat ++ List.replicate (N.length - ps.length) .no) := by
      have s := SR.start ok ra (List.replicate (us.length + (N.length - ps.length)) "")
      unfold L2.start at s
      rw [List.length_replicate, Nat.add_sub_cancel_left] at s
      exact s
    refine hs a hp ⟨{ bag := some (b, c), tab := some T }, G, H⟩ rfl G H _ (s0.consBag rfl) _ (fun δ' G' H' σ' n e s' => ?_) (fun _ _ _ _ z => z.elim) (fun _ _ _ _ z => z.elim) fun d v G' H' r e ok' st p => q d v G' H' r st ok' p
    exact q .none .non G' H' n s'.st s'.ok .non
end
end FK

/-! FkK: reading lists of one's own; targets that write into them; ranges downwards. -/
namespace FK
open PySem PySem.Spec PyProof.Rows L2
section
variable {M : Mx} {δ : List SD} {R : D → Prop} {te ta tb : TE} {K : PySem.W.Frag}
theorem we_ixO {i : Nat} {xs : List D} (hi : δ[i]? = some (.own xs)) (h : WE M te δ (fun k => ∃ (j : Int) (d : D), k = .int j ∧ atI xs j = some d ∧ R d)) : WE M (tOp (rIx K) (tVar i) te) δ R := fun G H σ s Q q => by
  obtain ⟨l, vs, e, h1, h2, h3, h4, ra⟩ := s.sl i _ hi
  refine ⟨.ref l, e, h G H σ s _ fun k w G1 H1 ⟨j, d, ek, ed, r⟩ st ok p => ?_⟩
  subst ek
  obtain ⟨v, ev, pv⟩ := atI_rp (RpA.mono st.gg _ _ ra) ed
  exact .inl ⟨l, vs, j, v, rfl, p.int_inv, SqL.of (st.hh _ _ h4 h1), ev, q _ _ _ _ r st ok pv⟩
theorem we_tupO {i : Nat} {xs : List D} (hi : δ[i]? = some (.own xs)) (r : R (.tuple xs)) : WE M (tCB rTupOf (tCons (tVar i) tNil)) δ R := fun G H σ s Q q => by
  obtain ⟨l, vs, e, h1, h2, h3, h4, ra⟩ := s.sl i _ hi
  refine ⟨.ref l, e, l, vs, rfl, .inl ⟨h1, fun p o ho hp => ?_⟩⟩
  obtain ⟨st, k1⟩ := Stp.new s.ok (.frz o (.tup vs)) hp
  exact q _ _ _ _ r st k1 (.tup ⟨o, ho, upd_same⟩ (RpA.mono st.gg _ _ ra))
theorem we_lenO {i : Nat} {xs : List D} (hi : δ[i]? = some (.own xs)) (r : R (.int (xs.length : Nat))) : WE M (tCB (rLen K) (tCons (tVar i) tNil)) δ R := fun G H σ s Q q => by
  obtain ⟨l, vs, e, h1, h2, h3, h4, ra⟩ := s.sl i _ hi
  refine ⟨.ref l, e, l, vs, rfl, .inl (SqL.of h1), ?_⟩
  rw [ra.length]
  exact q _ _ _ _ r (Stp.refl _ _ _) s.ok (.int _)
theorem we_cntO {i : Nat} {ns : List Int} (hi : δ[i]? = some (.own (ns.map PyData.int))) (h : WE M te δ (fun d => ∃ k, d = .int k ∧ R (.int (ns.count k : Nat)))) : WE M (tBM K "list" (rCntI K) (tVar i) (tCons te tNil)) δ R := fun G H σ s Q q => by
  obtain ⟨l, vs, e, h1, h2, h3, h4, ra⟩ := s.sl i _ hi
  have ev := ra.of_ints
  subst ev
  refine ⟨.ref l, e, .inl ⟨rfl, _, SqL.of h1⟩, h G H σ s _ fun d v G1 H1 ⟨k, ed, r⟩ st ok p => ?_⟩
  subst ed
  exact ⟨l, ns, k, rfl, by rw [p.int_inv], SqL.of (st.hh _ _ h4 h1), q _ _ _ _ r st ok (.int _)⟩
/-- a comprehension over a list of one's own -/
theorem wj_seqO {R : List D → Prop} {i : Nat} {xs : List D} (hi : δ[i]? = some (.own xs)) (r : R xs) : WJ M (iSeq K (tVar i)) δ R := fun G H σ s Q q => by
  obtain ⟨l, us, e, h1, h2, h3, h4, ra⟩ := s.sl i _ hi
  refine ⟨.ref l, e, l, rfl, .inl ⟨⟨us, SqL.of h1⟩, q xs _ G H r (Stp.refl _ _ _) s.ok fun G1 H1 st ok => ?_⟩⟩
  have sq : SqL K H1 l us := SqL.of (st.hh _ _ h4 h1)
  have hl := ra.length
  refine ⟨fun i hi => ⟨us, us[i], sq, by simp⟩, ⟨us, sq, by omega⟩, fun i x H2 hi y => ?_⟩
  obtain ⟨e2, y⟩ := y
  subst e2
  obtain ⟨d, ed, p⟩ := (RpA.mono st.gg _ _ ra).getV (y us sq)
  exact ⟨G1, d, Stp.refl _ _ _, ok, ed, p⟩
theorem wj_enO {R : List D → Prop} {i : Nat} {xs : List D} (hi : δ[i]? = some (.own xs)) (r : R (enD 0 xs)) : WJ M (iEnu1 (tCons (tVar i) tNil)) δ R := fun G H σ s Q q => by
  obtain ⟨l, us, e, h1, h2, h3, h4, ra⟩ := s.sl i _ hi
  refine ⟨.ref l, e, true, l, us, rfl, h1, q (enD 0 xs) _ G H r (Stp.refl _ _ _) s.ok fun G1 H1 st ok => ?_⟩
  have sq : SrcB true H1 l us := st.hh _ _ h4 h1
  have hl := ra.length
  refine ⟨fun i hi => ⟨sq, by rw [enD_len] at hi; omega⟩, ⟨sq, by rw [enD_len]; omega⟩, fun i v H2 hi y => ?_⟩
  obtain ⟨T, x, o, rfl, hT, ho, rfl, hx⟩ := y
  obtain ⟨d, ed, p⟩ := (RpA.mono st.gg _ _ ra).getV hx
  obtain ⟨st2, ok2⟩ := Stp.new ok (.frz o (.tup [.int (0 + (i : Nat)), x])) hT
  exact ⟨_, _, st2, ok2, enD_get ed, .tup ⟨o, ho, upd_same⟩ (.cons (.int _) (.cons (p.mono st2.gg) .nil))⟩
/-- a range downwards -/
def rdD (lo : Int) (n : Nat) : List D := (List.range n).map fun i => PyData.int (lo - (i : Nat))
theorem rdD_get {lo : Int} {n i : Nat} (h : i < n) : (rdD lo n)[i]? = some (.int (lo - (i : Nat))) := by
  unfold rdD
  rw [List.getElem?_map, List.getElem?_range h]
  rfl
theorem rdD_len {lo : Int} {n : Nat} : (rdD lo n).length = n := by unfold rdD; simp
theorem wi_rng3 {R : List D → Prop} {ta : TA} (h : WA M ta δ (fun ds => ∃ i j : Int, ds = [.int i, .int j, .int (-1)] ∧ (-(2 ^ 62) ≤ i ∧ i < 2 ^ 62 ∧ -(2 ^ 62) ≤ j ∧ j < 2 ^ 62) ∧ R (rdD i (i - j).toNat))) : WI M (iRng3 ta) δ R := fun G H σ s Q q =>
  h G H σ s _ fun ds vs G1 H1 ⟨i, j, e, hb, r⟩ st ok p => by
    subst e
    have e : vs = [V.int i, V.int j, V.int (-1)] := RpA.of_ints (ns := [i, j, -1]) p
    refine ⟨i, j, -1, _, e, RgC.neg hb.1 hb.2.1 hb.2.2.1 hb.2.2.2, q _ _ G1 H1 r st ok fun G2 H2 e2 ok2 => ?_⟩
    refine ⟨fun k hk => by rw [rdD_len] at hk; exact hk, by rw [rdD_len]; exact Nat.le_refl _, fun k x H3 hk y => ?_⟩
    obtain ⟨e2, e3⟩ := y
    subst e2
    subst e3
    rw [rdD_len] at hk
    refine ⟨G2, _, Stp.refl _ _ _, ok2, rdD_get hk, ?_⟩
    have : i + (k : Int) * (-1) = i - (k : Int) := by omega
    rw [this]
    exact .int _
end
/-! ### targets that may write into lists of one's own -/
section
variable {M : Mx} {δ : List SD} {N : List SD → Prop} {Kn0 : Kn} {te ti : TE}
def WH (M : Mx) (g : TG) (d : D) (δ : List SD) (N : List SD → Prop) : Prop := ∀ G H σ v, SR M G H σ δ → Rp G v d → ∀ Q : L2.St → Hp → Prop, (∀ δ' G' H' σ', N δ' → Same G G' → SR M G' H' σ' δ' → Q σ' H') → g v σ H Q
def WHs (M : Mx) (g : TGs) (ds : List D) (δ : List SD) (N : List SD → Prop) : Prop := ∀ G H σ vs, SR M G H σ δ → RpA G vs ds → ∀ Q : L2.St → Hp → Prop, (∀ δ' G' H' σ', N δ' → Same G G' → SR M G' H' σ' δ' → Q σ' H') → g vs σ H Q
theorem wh_name {i : Nat} {d : D} (h : N (δ.set i (.dat d))) : WH M (gName i) d δ N := fun G H σ v s p Q q => q _ G H _ h (Same.refl G) (s.setDat i p)
theorem wh_sub {i : Nat} {xs : List D} {d : D} (hi : δ[i]? = some (.own xs)) (h : WE M ti δ (fun k => ∃ j : Nat, k = .int (j : Int) ∧ j < xs.length ∧ N (δ.set i (.own (xs.set j d))))) : WH M (gSub (tVar i) ti rSetL) d δ N := fun G H σ v s p Q q => by
  obtain ⟨l, vs, e, h1, h2, h3, h4, ra⟩ := s.sl i _ hi
  refine ⟨.ref l, e, h G H σ s _ fun k w G1 H1 ⟨j, ek, hj, n⟩ st ok pk => ?_⟩
  subst ek
  exact ⟨l, vs, j, j, rfl, pk.int_inv, st.hh _ _ h4 h1, ixN_nat (by rw [ra.length]; exact hj), q _ G1 _ σ n st.gg ((s.step st ok).write hi e (RpA.set (p.mono st.gg) j (RpA.mono st.gg _ _ ra)))⟩
theorem whs_nil (h : N δ) : WHs M gNil [] δ N := fun G H σ vs s p Q q => by
  cases p
  exact ⟨rfl, q δ G H σ h (Same.refl G) s⟩
theorem whs_cons {t : TG} {u : TGs} {d : D} {ds : List D} (h : WH M t d δ (fun δ' => WHs M u ds δ' N)) : WHs M (gCons t u) (d :: ds) δ N := fun G H σ vs s p Q q => by
  cases p with
  | cons p1 p2 => exact ⟨_, _, rfl, h G H σ _ s p1 _ fun δ1 G1 H1 σ1 h1 e1 s1 => h1 G1 H1 σ1 _ s1 (RpA.mono e1 _ _ p2) Q fun δ2 G2 H2 σ2 h2 e2 s2 => q δ2 G2 H2 σ2 h2 (e1.trans e2) s2⟩
theorem wh_tup {K : PySem.W.Frag} {n : Nat} {t : TGs} {ds : List D} (hn : ds.length = n) (h : WHs M t ds δ N) : WH M (gTup K n t) (.tuple ds) δ N := fun G H σ v s p Q q => by
  obtain ⟨a, us, rfl, ha, ra⟩ := p.tup_inv
  exact ⟨a, us, rfl, (ha.same s.ok.gh).sq, by rw [ra.length]; exact hn, h G H σ us s ra Q q⟩
theorem ss_asgH {g : TG} (h : WE M te δ (fun d => WH M g d δ N)) : SS M (tAsg te g) δ N Kn0 := fun G H σ s Dn nx bk ct rt =>
  h G H σ s _ fun d v G1 H1 r st ok p => r G1 H1 σ v (s.step st ok) p _ fun δ' G' H' σ' n e s' => nx δ' G' H' σ' n (st.gg.trans e) s'
end
end FK

/-! FkL: loops and comprehensions over typed lists. -/
namespace FK
open PySem PySem.Spec PyProof.Rows L2
section
variable {M : Mx} {δ : List SD} {R : D → Prop} {te ta tb : TE} {B : Bg}
theorem rd_sub : RD B (rI0 fun i j => .int (i - j)) (dI fun i j => .int (i - j)) := rd_I0 fun _ _ _ => .int _
theorem rd_lt : RD B (rI0 fun i j => .bl (decide (i < j))) (dI fun i j => .bool (decide (i < j))) := rd_I0 fun _ _ _ => .bl _
theorem rd_le : RD B (rI0 fun i j => .bl (decide (i ≤ j))) (dI fun i j => .bool (decide (i ≤ j))) := rd_I0 fun _ _ _ => .bl _
theorem rd_gt : RD B (rI0 fun i j => .bl (decide (j < i))) (dI fun i j => .bool (decide (j < i))) := rd_I0 fun _ _ _ => .bl _
theorem rd_ge : RD B (rI0 fun i j => .bl (decide (j ≤ i))) (dI fun i j => .bool (decide (j ≤ i))) := rd_I0 fun _ _ _ => .bl _
theorem rd_mod : RD B (rI (fun _ j => 0 < j) fun i j => .int (i % j)) (dIC (fun _ j => 0 < j) fun i j => .int (i % j)) := rd_I fun _ _ _ => .int _
theorem rd_fdiv : RD B (rI CDiv fun i j => .int (i / j)) (dIC CDiv fun i j => .int (i / j)) := rd_I fun _ _ _ => .int _
theorem rd_pow : RD B (rI CPow fun i j => .int (i ^ j.toNat)) (dIC CPow fun i j => .int (i ^ j.toNat)) := rd_I fun _ _ _ => .int _
theorem we_neg (h : WE M te δ (fun d => ∃ i, d = .int i ∧ R (.int (-i)))) : WE M (tUn (rU fun i => .int (-i)) te) δ R := fun G H σ s Q q =>
  h G H σ s _ fun d v G1 H1 ⟨i, e, r⟩ st ok p => by
    subst e
    exact ⟨i, p.int_inv, q _ _ G1 H1 r st ok (.int _)⟩
theorem wt_eq {tt : TT} {R R' : Bool → Prop} (h : WT M tt δ R') (k : ∀ b, R' b → R b) : WT M tt δ R := fun G H σ s Q q => h G H σ s Q fun b G' H' r => q b G' H' (k b r)

theorem sm_lt0 {n : Nat} (h : n ≤ 100) : n < sizeLine := by rw [sizeLine_eq]; omega
theorem WI_imp {wi : TI} {R R' : List D → Prop} (h : WI M wi δ R') (k : ∀ xs, R' xs → R xs) : WI M wi δ R := fun G H σ s Q q => h G H σ s Q fun xs J G' H' r => q xs J G' H' (k xs r)
/-! ### calls -/
inductive CallOk (C : Ct) (R : D → Prop) (ds : List D) : Prop
  | mk (a : C.α) (e : ds = C.args a) (p : C.pre a) (k : ∀ d, C.post a d → R d) : CallOk C R ds
theorem CallOk.ex {C : Ct} {R : D → Prop} {ds : List D} : CallOk C R ds → ∃ a, ds = C.args a ∧ C.pre a ∧ ∀ d, C.post a d → R d
  | .mk a e p k => ⟨a, e, p, k⟩
theorem wa_imp {ta : TA} {R R' : List D → Prop} (h : WA M ta δ R') (k : ∀ d, R' d → R d) : WA M ta δ R := fun G H σ s Q q => h G H σ s Q fun d v G' H' r => q d v G' H' (k d r)
theorem callOk {C : Ct} {R : D → Prop} {ds : List D} (a : C.α) (e : ds = C.args a) (p : C.pre a) (k : ∀ d, C.post a d → R d) : CallOk C R ds := .mk a e p k
theorem we_callC {C : Ct} {tr : TA} {E : XK} (h : WA M tr δ (CallOk C R)) : WE M (tCall (spP C) [] E tr) δ R := we_call (wa_imp h fun _ r => r.ex)
theorem we_callBC {T : Addr × Str} {C : Ct} {tr : TA} {E : XK} {i : Nat} (hT : M.B.tab = some T) (hb : δ[i]? = some .bag) (h : WA M tr δ (CallOk C R)) : WE M (tCall (spB T C) [] E (tCons (tVar i) tr)) δ R := we_callB hT hb (wa_imp h fun _ r => r.ex)
theorem we_callTC {T : Addr × Str} {C : Ct} {tr : TA} {E : XK} (hT : M.B.tab = some T) (h : WA M tr δ (CallOk C R)) : WE M (tCall (spT T C) [] E tr) δ R := we_callT hT (wa_imp h fun _ r => r.ex)
/-! ### slots forgotten -/
inductive Le : List SD → List SD → Prop
  | nil : Le [] []
  | eq {x : SD} {a b : List SD} : Le a b → Le (x :: a) (x :: b)
  | no {x : SD} {a b : List SD} : Le a b → Le (x :: a) (.no :: b)
theorem Le.refl : ∀ δ : List SD, Le δ δ
  | [] => .nil
  | _ :: δ => .eq (Le.refl δ)
theorem Le.length {a b : List SD} (h : Le a b) : b.length = a.length := by
  induction h with
  | nil => rfl
  | eq _ ih => simp [ih]
  | no _ ih => simp [ih]
theorem Le.get {a b : List SD} (h : Le a b) : ∀ j : Nat, b[j]? = some SD.no ∨ b[j]? = a[j]? := by
  induction h with
  | nil => intro j; exact .inr rfl
  | eq _ ih =>
    intro j
    cases j with
    | zero => exact .inr rfl
    | succ j => simpa using ih j
  | no _ ih =>
    intro j
    cases j with
    | zero => exact .inl rfl
    | succ j => simpa using ih j
theorem SR.le {G H : Hp} {σ : L2.St} {δ' : List SD} (s : SR M G H σ δ) (h : Le δ δ') : SR M G H σ δ' :=
  s.reix id (by rw [h.length]; exact s.len) (fun j _ => (h.get j).imp_right fun e => ⟨e, rfl⟩) fun _ _ _ _ e => e
def wk (P : List SD → Prop) (δ : List SD) : Prop := ∃ δ', Le δ δ' ∧ P δ'
theorem wk.mk {P : List SD → Prop} {δ δ' : List SD} (l : Le δ δ') (p : P δ') : wk P δ := ⟨δ', l, p⟩
section
variable {N : List SD → Prop} {K : Kn} {t : TS}
theorem ss_le {δ' : List SD} (l : Le δ δ') (h : SS M t δ' N K) : SS M t δ N K := fun G H σ s => h G H σ (s.le l)
theorem ss_wk (h : SS M t δ (wk N) { K with bk := wk K.bk, ct := wk K.ct }) : SS M t δ N K := fun G H σ s Dn nx bk ct rt =>
  h G H σ s Dn (fun δ' G' H' σ' ⟨δ2, l, n⟩ e s' => nx δ2 G' H' σ' n e (s'.le l)) (fun δ' G' H' σ' ⟨δ2, l, n⟩ e s' => bk δ2 G' H' σ' n e (s'.le l)) (fun δ' G' H' σ' ⟨δ2, l, n⟩ e s' => ct δ2 G' H' σ' n e (s'.le l)) rt
/-- what a for asks of the things walked -/
def ForOk (M : Mx) (is : List Nat) (g : TG) (tb : TS) (δ : List SD) (N : List SD → Prop) (K : Kn) (xs : List D) : Prop := ∃ Pv : Nat → List SD → Prop, wk (Pv 0) δ ∧
  (∀ i d δ', xs[i]? = some d → Pv i δ' → WG M is g d δ' (fun δ2 => SS M tb δ2 (wk (Pv (i + 1))) ⟨K.rt, N, wk (Pv (i + 1))⟩)) ∧ ∀ δ', Pv xs.length δ' → N δ'
theorem ss_K {N' : List SD → Prop} {K' : Kn} (h : SS M t δ N K) (k : ∀ δ', N δ' → N' δ') (kr : ∀ d, K.rt d → K'.rt d) (kb : ∀ δ', K.bk δ' → K'.bk δ') (kc : ∀ δ', K.ct δ' → K'.ct δ') : SS M t δ N' K' := fun G H σ s Dn nx bk ct rt =>
  h G H σ s Dn (fun δ' G' H' σ' n => nx δ' G' H' σ' (k δ' n)) (fun δ' G' H' σ' n => bk δ' G' H' σ' (kb δ' n)) (fun δ' G' H' σ' n => ct δ' G' H' σ' (kc δ' n)) fun d v G' H' r => rt d v G' H' (kr d r)
theorem ss_forL {wi : TI} {g : TG} {tb : TS} (is : List Nat) (h : WI M wi δ (ForOk M is g tb δ N K)) : SS M (tFor wi g tb) δ N K := by
  refine ss_wk (ss_for is fun G H σ s Q q => h G H σ s Q fun xs J G' H' r => q xs J G' H' ?_)
  obtain ⟨Pv, h0, hs, hd⟩ := r
  refine ⟨fun i => wk (Pv i), h0, fun i d δ' e ⟨δ1, l, p⟩ => ?_, fun δ' ⟨δ1, l, p⟩ => ⟨δ1, l, hd δ1 p⟩⟩
  intro G H σ v s pv Q q
  refine hs i d δ1 e p G H σ v (s.le l) pv Q fun δ2 σ2 hb s2 l2 e2 => q δ2 σ2 ?_ s2 l2 e2
  exact ss_K hb (fun _ n => n) (fun _ n => n) (fun δ' n => ⟨δ', Le.refl _, n⟩) fun _ n => n
/-- over a typed list -/
theorem forOk {α : Type} {is : List Nat} {g : TG} {tb : TS} {xs : List D} (l : List α) (enc : α → D) (e : xs = l.map enc) (Pv : Nat → List SD → Prop) (h0 : wk (Pv 0) δ)
    (hs : ∀ (i : Nat) (a : α) (δ' : List SD), l[i]? = some a → Pv i δ' → WG M is g (enc a) δ' (fun δ2 => SS M tb δ2 (wk (Pv (i + 1))) ⟨K.rt, N, wk (Pv (i + 1))⟩)) (hd : ∀ δ', Pv l.length δ' → N δ') : ForOk M is g tb δ N K xs := by
  subst e
  refine ⟨Pv, h0, fun i d δ' e p => ?_, fun δ' p => hd δ' (by rw [List.length_map] at p; exact p)⟩
  rw [List.getElem?_map] at e
  cases q : l[i]? with
  | none => rw [q] at e; cases e
  | some a =>
    rw [q] at e
    cases e
    exact hs i a δ' q p
/-- the slots as a list of what is known by the turn -/
theorem forOk1 {α : Type} {is : List Nat} {g : TG} {tb : TS} {xs : List D} (l : List α) (enc : α → D) (e : xs = l.map enc) (S : Nat → List SD) (h0 : Le δ (S 0))
    (hs : ∀ (i : Nat) (a : α), l[i]? = some a → WG M is g (enc a) (S i) (fun δ2 => SS M tb δ2 (fun δ3 => Le δ3 (S (i + 1))) ⟨K.rt, N, fun δ3 => Le δ3 (S (i + 1))⟩)) (hd : N (S l.length)) : ForOk M is g tb δ N K xs := by
  refine forOk l enc e (fun i δ' => δ' = S i) ⟨_, h0, rfl⟩ (fun i a δ' hi p => ?_) fun δ' p => p ▸ hd
  subst p
  intro G H σ v s pv Q q
  refine hs i a hi G H σ v s pv Q fun δ2 σ2 hb s2 l2 e2 => q δ2 σ2 ?_ s2 l2 e2
  exact ss_K hb (fun _ n => ⟨_, n, rfl⟩) (fun _ n => n) (fun δ' n => n) fun _ n => ⟨_, n, rfl⟩
/-- .. and what holds by the way -/
theorem forOkI {α : Type} {is : List Nat} {g : TG} {tb : TS} {xs : List D} (l : List α) (enc : α → D) (e : xs = l.map enc) (S : Nat → List SD) (Φ : Nat → Prop) (p0 : Φ 0) (h0 : Le δ (S 0))
    (hs : ∀ (i : Nat) (a : α), l[i]? = some a → Φ i → WG M is g (enc a) (S i) (fun δ2 => SS M tb δ2 (fun δ3 => Φ (i + 1) ∧ Le δ3 (S (i + 1))) ⟨K.rt, N, fun δ3 => Φ (i + 1) ∧ Le δ3 (S (i + 1))⟩)) (hd : Φ l.length → N (S l.length)) : ForOk M is g tb δ N K xs := by
  refine forOk l enc e (fun i δ' => Φ i ∧ δ' = S i) ⟨_, h0, p0, rfl⟩ (fun i a δ' hi p => ?_) fun δ' p => p.2 ▸ hd p.1
  obtain ⟨p, rfl⟩ := p
  intro G H σ v s pv Q q
  refine hs i a hi p G H σ v s pv Q fun δ2 σ2 hb s2 l2 e2 => q δ2 σ2 ?_ s2 l2 e2
  exact ss_K hb (fun _ n => ⟨_, n.2, n.1, rfl⟩) (fun _ n => n) (fun δ' n => n) fun _ n => ⟨_, n.2, n.1, rfl⟩
/-- .. with data that are found by the way: Φ i y -/
theorem forOkE {α β : Type} {is : List Nat} {g : TG} {tb : TS} {xs : List D} (l : List α) (enc : α → D) (e : xs = l.map enc) (S : β → List SD) (Φ : Nat → β → Prop) (y0 : β) (p0 : Φ 0 y0) (h0 : Le δ (S y0))
    (hs : ∀ (i : Nat) (a : α) (y : β), l[i]? = some a → Φ i y → WG M is g (enc a) (S y) (fun δ2 => SS M tb δ2 (fun δ3 => ∃ y', Φ (i + 1) y' ∧ Le δ3 (S y')) ⟨K.rt, N, fun δ3 => ∃ y', Φ (i + 1) y' ∧ Le δ3 (S y')⟩)) (hd : ∀ y, Φ l.length y → N (S y)) : ForOk M is g tb δ N K xs := by
  refine forOk l enc e (fun i δ' => ∃ y, Φ i y ∧ δ' = S y) ⟨_, h0, y0, p0, rfl⟩ (fun i a δ' hi p => ?_) fun δ' ⟨y, p, e⟩ => e ▸ hd y p
  obtain ⟨y, p, rfl⟩ := p
  intro G H σ v s pv Q q
  refine hs i a y hi p G H σ v s pv Q fun δ2 σ2 hb s2 l2 e2 => q δ2 σ2 ?_ s2 l2 e2
  exact ss_K hb (fun _ ⟨y', p', n⟩ => ⟨_, n, y', p', rfl⟩) (fun _ n => n) (fun δ' n => n) fun _ ⟨y', p', n⟩ => ⟨_, n, y', p', rfl⟩
end
/-! ### comprehensions -/
section
variable {g : TG} {tt : TT} {vs : List Nat} {RL : List D → Prop} {wi : TI}
def LcOk (M : Mx) (g : TG) (tt : TT) (te : TE) (vs : List Nat) (δ : List SD) (R : List D → Prop) (xs : List D) : Prop := xs.length < sizeLine ∧ ∃ Pv : Nat → List D → Prop, Pv 0 [] ∧ (∀ i d acc, xs[i]? = some d → acc.length ≤ i → Pv i acc →
    WG M vs g d (wipeD δ vs) (fun δ2 => WT M tt δ2 (fun b => (b = true → WE M te δ2 (fun y => Pv (i + 1) (acc ++ [y]))) ∧ (b = false → Pv (i + 1) acc)))) ∧ ∀ acc, Pv xs.length acc → R acc
theorem wl_lcL (h : WJ M wi δ (LcOk M g tt te vs δ RL)) : WL M (tLc wi g tt te vs) δ RL := wl_lc h
theorem wg_imp {is : List Nat} {d : D} {N N' : List SD → Prop} (h : WG M is g d δ N) (k : ∀ δ', N δ' → N' δ') : WG M is g d δ N' := fun G H σ v s p Q q => h G H σ v s p Q fun δ' σ' n => q δ' σ' (k δ' n)
/-- filter and map of a typed list -/
theorem lcOk {α : Type} {xs : List D} (l : List α) (enc : α → D) (e : xs = l.map enc) (c : α → Bool) (f : α → D) (hz : l.length < sizeLine)
    (hs : ∀ (i : Nat) (a : α), l[i]? = some a → WG M vs g (enc a) (wipeD δ vs) (fun δ2 => WT M tt δ2 (fun b => b = c a ∧ (c a = true → WE M te δ2 (fun y => y = f a))))) (r : RL ((l.filter c).map f)) : LcOk M g tt te vs δ RL xs := by
  subst e
  refine ⟨by rw [List.length_map]; exact hz, fun i acc => acc = ((l.take i).filter c).map f, by simp, fun i d acc e _ p => ?_, fun acc p => ?_⟩
  · rw [List.getElem?_map] at e
    cases q : l[i]? with
    | none => rw [q] at e; cases e
    | some a =>
      rw [q] at e
      cases e
      have et : l.take (i + 1) = l.take i ++ [a] := by
        rw [List.take_add_one, q]
        rfl
      refine wg_imp (hs i a q) fun δ2 h2 => wt_eq h2 fun b hb => ?_
      obtain ⟨rfl, hb2⟩ := hb
      refine ⟨fun hc => we_imp (hb2 hc) fun y ey => ?_, fun hc => ?_⟩
      · show acc ++ [y] = ((l.take (i + 1)).filter c).map f
        rw [et, List.filter_append, List.filter_cons, if_pos hc, p, ey]
        simp
      · show acc = ((l.take (i + 1)).filter c).map f
        rw [et, List.filter_append, List.filter_cons, hc, p]
        simp
  · rw [List.length_map, List.take_of_length_le (Nat.le_refl _)] at p
    rw [p]
    exact r
/-- map alone -/
theorem lcOkM {α : Type} {xs : List D} (l : List α) (enc : α → D) (e : xs = l.map enc) (f : α → D) (hz : l.length < sizeLine)
    (hs : ∀ (i : Nat) (a : α), l[i]? = some a → WG M vs g (enc a) (wipeD δ vs) (fun δ2 => WT M tt δ2 (fun b => b = true ∧ WE M te δ2 (fun y => y = f a)))) (r : RL (l.map f)) : LcOk M g tt te vs δ RL xs :=
  lcOk l enc e (fun _ => true) f hz (fun i a h => wg_imp (hs i a h) fun δ2 h2 => wt_eq h2 fun b hb => ⟨hb.1, fun _ => hb.2⟩) (by rw [List.filter_eq_self.mpr fun _ _ => rfl]; exact r)
/-- map of a typed list, each value by what is asked of it -/
theorem lcOkR {α : Type} {xs : List D} (l : List α) (enc : α → D) (e : xs = l.map enc) (Φ : α → D → Prop) (hz : l.length < sizeLine)
    (hs : ∀ (i : Nat) (a : α), l[i]? = some a → WG M vs g (enc a) (wipeD δ vs) (fun δ2 => WT M tt δ2 (fun b => b = true ∧ WE M te δ2 (Φ a)))) (r : ∀ ds : List D, ds.length = l.length → (∀ (i : Nat) (a : α) (d : D), l[i]? = some a → ds[i]? = some d → Φ a d) → RL ds) : LcOk M g tt te vs δ RL xs := by
  subst e
  refine ⟨by rw [List.length_map]; exact hz, fun i acc => acc.length = min i l.length ∧ ∀ (j : Nat) (a : α) (d : D), l[j]? = some a → acc[j]? = some d → Φ a d, ⟨by simp, fun j a d _ h => by simp at h⟩, fun i d acc e _ p => ?_, fun acc p => ?_⟩
  · rw [List.getElem?_map] at e
    cases q : l[i]? with
    | none => rw [q] at e; cases e
    | some a =>
      rw [q] at e
      cases e
      have hi := (List.getElem?_eq_some_iff.mp q).1
      refine wg_imp (hs i a q) fun δ2 h2 => wt_eq h2 fun b hb => ?_
      obtain ⟨rfl, hb2⟩ := hb
      refine ⟨fun _ => we_imp hb2 fun y ey => ⟨by rw [List.length_append, p.1, List.length_singleton]; omega, fun j a' d' h1 h2 => ?_⟩, fun hc => nomatch hc⟩
      by_cases hj : j < acc.length
      · rw [List.getElem?_append_left hj] at h2
        exact p.2 j a' d' h1 h2
      · rw [List.getElem?_append_right (by omega)] at h2
        have hj2 := (List.getElem?_eq_some_iff.mp h2).1
        rw [List.length_singleton] at hj2
        have ej : j = i := by omega
        subst ej
        rw [q] at h1
        cases h1
        have e0 : j - acc.length = 0 := by omega
        rw [e0] at h2
        cases h2
        exact ey
  · rw [List.length_map] at p
    exact r acc (by omega) p.2
/-- filter and map; each value by what is asked of it; only what holds of all is kept -/
theorem lcOkA {α : Type} {xs : List D} (l : List α) (enc : α → D) (e : xs = l.map enc) (Φ : D → Prop) (hz : l.length < sizeLine)
    (hs : ∀ (i : Nat) (a : α), l[i]? = some a → WG M vs g (enc a) (wipeD δ vs) (fun δ2 => WT M tt δ2 (fun b => b = true → WE M te δ2 Φ))) (r : ∀ ds : List D, ds.length ≤ l.length → (∀ d ∈ ds, Φ d) → RL ds) : LcOk M g tt te vs δ RL xs := by
  subst e
  refine ⟨by rw [List.length_map]; exact hz, fun i acc => acc.length ≤ min i l.length ∧ ∀ d ∈ acc, Φ d, ⟨by simp, fun d h => nomatch h⟩, fun i d acc e _ p => ?_, fun acc p => ?_⟩
  · rw [List.getElem?_map] at e
    cases q : l[i]? with
    | none => rw [q] at e; cases e
    | some a =>
      rw [q] at e
      cases e
      have hi := (List.getElem?_eq_some_iff.mp q).1
      refine wg_imp (hs i a q) fun δ2 h2 => wt_eq h2 fun b hb => ⟨fun hc => we_imp (hb hc) fun y ey => ⟨by rw [List.length_append, List.length_singleton]; omega, fun d hd => ?_⟩, fun hc => ⟨by omega, p.2⟩⟩
      rcases List.mem_append.mp hd with z | z
      · exact p.2 d z
      · rw [List.mem_singleton] at z
        subst z
        exact ey
  · rw [List.length_map] at p
    exact r acc (by omega) p.2
end
theorem dz {α : Type} {l : List α} {P : Prop} (h : l.length ≤ 100) (p : P) : l.length ≤ sizeLine ∧ P := ⟨Nat.le_of_lt (sm_lt0 h), p⟩
/-! ### the lists walked, typed -/
theorem rgD_map (lo : Int) (n : Nat) : rgD lo n = (List.range n).map fun i => PyData.int (lo + (i : Nat)) := rfl
theorem rdD_map (lo : Int) (n : Nat) : rdD lo n = (List.range n).map fun i => PyData.int (lo - (i : Nat)) := rfl
theorem enD_map {α : Type} (k : Int) (l : List α) (e : α → D) : enD k (l.map e) = l.zipIdx.map fun p => prD (.int (k + (p.2 : Nat))) (e p.1) := by
  refine List.ext_getElem? fun i => ?_
  rw [List.getElem?_map, List.getElem?_zipIdx]
  cases h : l[i]? with
  | none =>
    have : l.length ≤ i := List.getElem?_eq_none_iff.mp h
    rw [List.getElem?_eq_none (by rw [enD_len, List.length_map]; exact this)]
    rfl
  | some a =>
    have : (l.map e)[i]? = some (e a) := by rw [List.getElem?_map, h]; rfl
    rw [enD_get this]
    simp
theorem enD_map0 {α : Type} (l : List α) (e : α → D) : enD 0 (l.map e) = l.zipIdx.map fun p => prD (.int (p.2 : Nat)) (e p.1) := by
  rw [enD_map]
  simp only [Int.zero_add]
theorem rgD_map0 (n : Nat) : rgD 0 n = (List.range n).map fun i => PyData.int (i : Nat) := by
  rw [rgD_map]
  simp only [Int.zero_add]
theorem zpD_map {α β : Type} (l : List α) (m : List β) (e : α → D) (e' : β → D) : zpD (l.map e) (m.map e') = (l.zip m).map fun p => prD (e p.1) (e' p.2) := by
  unfold zpD List.zip
  rw [List.zipWith_map_left, List.zipWith_map_right, List.map_zipWith]
end
/-! ### the bag's places -/
def bagC (k : Nat) (v : Int) : Prop := 0 ≤ v ∧ (k = 1 → v < 2147483647)
section
variable {M : Mx} {δ : List SD} {N : List SD → Prop} {Kn0 : Kn} {te : TE} {R : D → Prop} {K : PySem.W.Frag}
theorem SR.writeBag {G H : Hp} {σ : L2.St} (s : SR M G H σ δ) {b c : Addr} (hb : M.B.bag = some (b, c)) {x y z : Int} (hx : bagC 0 x) (hy : bagC 1 y) (hz : bagC 2 z) : SR M G (upd H b (.lst [.int x, .int y, .int z, .ref c])) σ δ := by
  obtain ⟨k1, k2, x0, y0, z0, ns, e1, e2, _, _, _, _, e3⟩ := s.ok.bag b c hb
  have nG : ∀ a u, G a = some u → a ≠ b := fun a u e z => by rw [z, k1] at e; cases e
  obtain ⟨uc, huc⟩ := some_of k2
  refine ⟨⟨fun a u e => by rw [upd_ne (nG a u e)]; exact s.ok.gh a u e, fun b' c' hb' => ?_, fun P q hp => ?_⟩, ⟨s.st.gg, fun a u n e => ?_, s.st.fr, fun a e => ?_⟩, s.len, fun j sd h => ?_, s.ds⟩
  · rw [hb] at hb'
    cases hb'
    exact ⟨k1, k2, x, y, z, ns, upd_same, by rw [upd_ne (nG c uc huc)]; exact e2, hx.1, hy.1, hy.2 rfl, hz.1, e3⟩
  · obtain ⟨g1, ps, q1, q2, q3⟩ := s.ok.tab P q hp
    refine ⟨g1, ps, by rw [upd_ne (ne_of q1 e1 (fun z => nomatch z))]; exact q1, q2, fun pos cv hc => ?_⟩
    obtain ⟨c', f1, f2⟩ := q3 pos cv hc
    exact ⟨c', f1, by rw [upd_ne (ne_of f2 e1 (fun z => nomatch z))]; exact f2⟩
  · rw [upd_ne (n.1 (b, c) hb)]
    exact s.st.hh a u n e
  · by_cases z : a = b
    · rw [z, upd_same]; exact fun z => nomatch z
    · rw [upd_ne z]; exact s.st.th a e
  · have q := s.sl j sd h
    cases sd with
    | no => trivial
    | dat d => exact q
    | own zs =>
      obtain ⟨m, us, f1, g1, g2, g3, g4, rr⟩ := q
      exact ⟨m, us, f1, by rw [upd_ne (g4.1 (b, c) hb)]; exact g1, g2, g3, g4, rr⟩
    | bag => exact q
theorem we_bag {i k : Nat} (hi : δ[i]? = some .bag) (hk : k < 3) (h : ∀ v, bagC k v → R (.int v)) : WE M (tOp (rIx K) (tVar i) (tC (.int (k : Int)))) δ R := fun G H σ s Q q => by
  obtain ⟨b, c, hb, e⟩ := s.sl i _ hi
  obtain ⟨k1, k2, x, y, z, ns, e1, e2, hx, hy, hy2, hz, e3⟩ := s.ok.bag b c hb
  have fin : ∀ v, bagC k v → Q (.int v) H := fun v hv => q (.int v) (.int v) G H (h v hv) (Stp.refl _ _ _) s.ok (.int _)
  match k, hk with
  | 0, _ => exact ⟨.ref b, e, .inl ⟨b, _, 0, .int x, rfl, rfl, SqL.of e1, rfl, fin x ⟨hx, fun z => nomatch z⟩⟩⟩
  | 1, _ => exact ⟨.ref b, e, .inl ⟨b, _, 1, .int y, rfl, rfl, SqL.of e1, rfl, fin y ⟨hy, fun _ => hy2⟩⟩⟩
  | 2, _ => exact ⟨.ref b, e, .inl ⟨b, _, 2, .int z, rfl, rfl, SqL.of e1, rfl, fin z ⟨hz, fun z => nomatch z⟩⟩⟩
theorem we_bag3 {i : Nat} (hi : δ[i]? = some .bag) (h : ∀ ns : List Int, (∀ n ∈ ns, 0 ≤ n) → ns.length ≤ 100 → R (.list (ns.map .int))) : WE M (tOp (rIx K) (tVar i) (tC (.int 3))) δ R := fun G H σ s Q q => by
  obtain ⟨b, c, hb, e⟩ := s.sl i _ hi
  obtain ⟨k1, k2, x, y, z, ns, e1, e2, hx, hy, hy2, hz, e3, e4⟩ := s.ok.bag b c hb
  obtain ⟨u, hu⟩ := some_of k2
  have e2' : G c = some (.lst (ns.map V.int)) := by
    have := s.ok.gh c u hu
    rw [e2] at this
    cases this
    exact hu
  exact ⟨.ref b, e, .inl ⟨b, _, 3, .ref c, rfl, rfl, SqL.of e1, rfl, q (.list (ns.map .int)) (.ref c) G H (h ns e3 e4) (Stp.refl _ _ _) s.ok (.lst e2' (RpA.ints ns))⟩⟩
theorem ss_bag {i k : Nat} (hi : δ[i]? = some .bag) (hk : k < 2) (h : WE M te δ (fun d => ∃ v, d = .int v ∧ bagC k v ∧ N δ)) : SS M (tAsg te (gSub (tVar i) (tC (.int (k : Int))) rSetL)) δ N Kn0 := fun G H σ s Dn nx bk ct rt => by
  obtain ⟨b, c, hb, e⟩ := s.sl i _ hi
  refine h G H σ s _ fun d v G1 H1 ⟨v', ed, hv, n⟩ st ok p => ?_
  subst ed
  have s1 := s.step st ok
  obtain ⟨k1, k2, x, y, z, ns, e1, e2, hx, hy, hy2, hz, e3⟩ := ok.bag b c hb
  have ev := p.int_inv
  subst ev
  match k, hk with
  | 0, _ => exact ⟨.ref b, e, b, _, 0, 0, rfl, rfl, e1, rfl, nx _ G1 _ σ n st.gg (s1.writeBag hb hv ⟨hy, fun _ => hy2⟩ ⟨hz, fun z => nomatch z⟩)⟩
  | 1, _ => exact ⟨.ref b, e, b, _, 1, 1, rfl, rfl, e1, rfl, nx _ G1 _ σ n st.gg (s1.writeBag hb ⟨hx, fun z => nomatch z⟩ hv ⟨hz, fun z => nomatch z⟩)⟩
theorem ss_bagAug {i : Nat} (hi : δ[i]? = some .bag) (n : N δ) : SS M (tAugS (tVar i) (tC (.int 2)) (tC (.int 1)) rGetL (ipI fun i j => i + j) rSetL) δ N Kn0 := fun G H σ s Dn nx bk ct rt => by
  obtain ⟨b, c, hb, e⟩ := s.sl i _ hi
  obtain ⟨k1, k2, x, y, z, ns, e1, e2, hx, hy, hy2, hz, e3⟩ := s.ok.bag b c hb
  exact ⟨.ref b, e, b, _, 2, .int z, rfl, rfl, e1, rfl, z, 1, rfl, rfl, b, _, 2, 2, rfl, rfl, e1, rfl, nx _ G _ σ n (Same.refl G) (s.writeBag hb ⟨hx, fun z => nomatch z⟩ ⟨hy, fun _ => hy2⟩ ⟨by show 0 ≤ z + 1; omega, fun z => nomatch z⟩)⟩
theorem we_bag0 {i : Nat} (hi : δ[i]? = some .bag) (h : ∀ v, bagC 0 v → R (.int v)) : WE M (tOp (rIx K) (tVar i) (tC (.int 0))) δ R := we_bag (k := 0) hi (by decide) h
theorem we_bag1 {i : Nat} (hi : δ[i]? = some .bag) (h : ∀ v, bagC 1 v → R (.int v)) : WE M (tOp (rIx K) (tVar i) (tC (.int 1))) δ R := we_bag (k := 1) hi (by decide) h
theorem we_bag2 {i : Nat} (hi : δ[i]? = some .bag) (h : ∀ v, bagC 2 v → R (.int v)) : WE M (tOp (rIx K) (tVar i) (tC (.int 2))) δ R := we_bag (k := 2) hi (by decide) h
end
end FK

/-! FkS: sorted(set(a list of ints)). -/
namespace FK
open PySem PySem.Spec PyProof.Rows L2
section
variable {P : Program} {w : World} {A : Around} {E : Value → Shared → Prop} {s : Shared}
/-- as for a tuple (HandS.SetFor), over a list -/
theorem set_of_list {l : Addr} {items : Array Value} (ns : List Int) {Q : Value → Shared → Prop} (hh : A.handled = none) (hl : s.heap.IsList l items) (hit : IntsAre items.toList ns) (hb : ns.length + 1 < scanBound)
    (h : ∀ (h' : Heap) (tk c : Nat), SetR w h' s.heap.objs.size (fun j => decide (j ∈ ns)) c → c ≤ ns.length → (∀ b o, s.heap.get? b = some o → h'.get? b = some o) → Q (.ref s.heap.objs.size) { s with heap := h', toks := tk }) :
    wpAny (model P w) A (call (.type "set") [.ref l]) Q E s := by
  have hisz : items.size = ns.length := by
    have q := IntsAre.length hit
    rw [Array.length_toList] at q
    exact q
  obtain ⟨c, tl, hmro⟩ := F.called_set.mro
  have hmade := F.called_set.made
  have hsub := F.called_set.sub
  refine wpAny_call (codeAny_of_tree ?_)
  show wpAny _ _ (callAny (.type "set") _) _ _ _
  refine wpAny_pure ⟨Code.quiet_builtin _ (by decide +kernel), codeAny_builtin F.entry_type_call ?_⟩
  rw [Around.under_plain (weight_type_call_type "set" [.ref l] []) rfl]
  have h1 := F.called_set.notType
  have h2 := F.called_set.canCreate
  have hct := F.typeCall_set_1 (.ref l)
  repeat (any_goals (first | assumption | wp_step))

  refine codeAny_mono (code_set_led1 (.ref l) (E := E) (Q₁ := fun obj s₁ => obj = .ref s.heap.objs.size ∧ s₁ = { s with heap := s.heap.push { cls := .type "set", dict := none, data := .set #[] 0 (.fresh 0 0 (!w.params.followText "set-order")) } }) ⟨rfl, rfl⟩) fun r s₁ hr => ?_
  cases r with
  | error e => exact hr
  | ok fl =>
    cases fl with
    | ret obj =>
      obtain ⟨rfl, rfl⟩ := hr
      have hS : (s.heap.push { cls := .type "set", dict := none, data := .set #[] 0 (.fresh 0 0 (!w.params.followText "set-order")) }).get? s.heap.objs.size = some { cls := .type "set", dict := none, data := .set #[] 0 (.fresh 0 0 (!w.params.followText "set-order")) } := Heap.get?_push_size _ rfl
      have hT : Shared.TypeIs { s with heap := s.heap.push { cls := .type "set", dict := none, data := .set #[] 0 (.fresh 0 0 (!w.params.followText "set-order")) } } (.ref s.heap.objs.size) "set" := ⟨_, hS, rfl⟩
      have hli := F.called_set.init.lookup
      have hbi := F.called_set.init.bind (.ref s.heap.objs.size)
      repeat (any_goals (first | assumption | wp_step))

      refine codeAny_mono (codeAny_call_builtin (R := wants (fun r s₂ => r = .none ∧ ∃ h' tk c, s₂ = { s with heap := h', toks := tk } ∧ SetR w h' s.heap.objs.size (fun j => decide (j ∈ ns)) c ∧ c ≤ ns.length ∧
          (∀ b o, s.heap.get? b = some o → h'.get? b = some o)) E) F.called_set.init.plain F.entry_set_init (check_set_init_1 hT ?_)) fun r₂ s₂ hr₂ => ?_
      · obtain ⟨ol, hol, hcl, nl, hdl⟩ := hl
        obtain ⟨ocls, odict, odata, oslots⟩ := ol
        simp only at hcl hdl
        subst hcl; subst hdl
        have hol' : (s.heap.push { cls := .type "set", dict := none, data := .set #[] 0 (.fresh 0 0 (!w.params.followText "set-order")) }).get? l = some { cls := .type "list", dict := odict, data := .seq items nl, slots := oslots } := Heap.get?_push_of_some _ hol
        have hsls := F.sub_list_set
        have hslf := F.sub_list_frozenset
        have hne : (Value.type "list" == Value.type "dict") = false := by decide
        have hl1 : (s.heap.push { cls := .type "set", dict := none, data := .set #[] 0 (.fresh 0 0 (!w.params.followText "set-order")) }).IsList l items := ⟨_, hol', rfl, nl, rfl⟩
        unfold Builtin.«set.__init__» noKeywords Builtin.Frozenset.updateFrom
        generalize hPI : pyIter = PI
        wp_walk
        subst hPI

        refine wpAny_pyIter_list hl1 ?_
        refine wpAny_bind (wpAny_runValue ?_)
        have hlS : l < s.heap.objs.size := Heap.lt_size hol
        have hh3 : A.in1.in1.in1.handled = none := by simp [hh]
        have hz1 : (s.heap.push { cls := .type "set", dict := none, data := .set #[] 0 (.fresh 0 0 (!w.params.followText "set-order")) }).objs.size = s.heap.objs.size + 1 := Heap.size_push ..
        have hneI : l ≠ (s.heap.push { cls := .type "set", dict := none, data := .set #[] 0 (.fresh 0 0 (!w.params.followText "set-order")) }).objs.size := by
          rw [Heap.size_push]; exact Nat.ne_of_lt (Nat.lt_succ_of_lt hlS)
        have hSf : s.heap.objs.size ∉ [(s.heap.push { cls := .type "set", dict := none, data := .set #[] 0 (.fresh 0 0 (!w.params.followText "set-order")) }).objs.size, l] := by
          rw [Heap.size_push]; simp only [List.mem_cons, List.mem_singleton, List.not_mem_nil, or_false, not_or]
          exact ⟨Nat.ne_of_lt (Nat.lt_succ_self _), Nat.ne_of_gt hlS⟩
        have hval : ∀ (i : Nat) (v : Value), items[i]? = some v → ∃ k t, ns[i]? = some k ∧ v = .int k t := fun i v hv => by
          have hi : i < ns.length := by rw [← hisz]; exact (Array.getElem?_eq_some_iff.mp hv).1
          obtain ⟨t, e⟩ := PyProof.Rows.IntsAre.int_at hit i v (by rw [Array.getElem?_toList]; exact hv)
          refine ⟨ns[i], t, List.getElem?_eq_getElem hi, ?_⟩
          rw [e, List.getD_eq_getElem?_getD, List.getElem?_eq_getElem hi] <;> rfl
        refine set_update_ints ((Walks.list hh3 _ l hneI items).toS) s.heap.objs.size
          hSf ns hisz hb hval (items.size - 0) 0 _ (by omega) (Nat.zero_le _)
          ⟨⟨_, Heap.get?_push_size _ rfl, rfl, rfl⟩, (hl1.push _)⟩ ?hS0 ?hR
        case hS0 =>
          have hget : ((s.heap.push { cls := .type "set", dict := none, data := .set #[] 0 (.fresh 0 0 (!w.params.followText "set-order")) }).push { cls := .type "list_iterator", data := .fields #[.ref l, .int 0 0] }).get? s.heap.objs.size
              = some { cls := .type "set", dict := none, data := .set #[] 0 (.fresh 0 0 (!w.params.followText "set-order")) } := Heap.get?_push_of_some _ hS
          exact ⟨0, Nat.le_refl 0, setR_new_at hget⟩
        case hR =>
          intro s' c' hm hc' hS'
          obtain ⟨h', g2, d', tk', os'⟩ := s'
          have eg : g2 = s.gens := hm.gens
          have ed : d' = s.drawn := hm.drawn
          have eo : os' = s.os := hm.os
          subst eg; subst ed; subst eo
          show wpAny _ _ _ _ _ _
          refine wpAny_pure ?_
          show wpAny _ _ (ret Value.none) _ _ _
          rw [hisz] at hc'
          refine wpAny_pure ⟨rfl, h', tk', c', rfl, hS', hc', fun b o e => ?_⟩
          have hb0 : b < s.heap.objs.size := Heap.lt_size e
          have hb1 : b ≠ s.heap.objs.size := Nat.ne_of_lt hb0
          have hb2 : b ≠ (s.heap.push { cls := .type "set", dict := none, data := .set #[] 0 (.fresh 0 0 (!w.params.followText "set-order")) }).objs.size := by
            rw [Heap.size_push]; exact Nat.ne_of_lt (Nat.lt_succ_of_lt hb0)
          exact hm.heap b o (by simp only [List.mem_cons, List.mem_singleton, List.not_mem_nil, or_false, not_or]; exact ⟨hb1, hb2⟩) (Heap.get?_push_of_some _ (Heap.get?_push_of_some _ e))

      · cases r₂ with
        | error e => exact hr₂
        | ok fl₂ =>
          cases fl₂ with
          | ret r =>
            obtain ⟨rfl, h', tk, c', rfl, hS', hc', hk'⟩ := hr₂
            repeat (any_goals (first | assumption | wp_step))
            exact h _ _ _ hS' hc' hk'
          | _ => exact hr₂.elim
    | _ => exact hr.elim
end
end FK

/-! FkS2: sorted(set(xs)) as a rule. -/
namespace FK
open PySem PySem.Spec PyProof.Rows L2
def rSetI (K : PySem.W.Frag) (w : World) : List V → Hp → VK → Prop := fun vs H Q => ∃ (a : Addr) (ns : List Int), vs = [V.ref a] ∧ SqL K H a (ns.map V.int) ∧ ns.length < 64 ∧
  ∀ (p : Addr) (c : Nat), H p = none → c ≤ ns.length → Q (.ref p) (upd H p (SetO w p (fun j => decide (j ∈ ns)) c))
theorem cr_setI {X : Cx} (hc : X.calm = true) : CallR X (.type "set") (rSetI X.K X.w) := by
  intro pins s σ H vs us Q I r h
  obtain ⟨a, ns, rfl, hs, h64, q⟩ := h
  obtain ⟨its, rv, p, hz⟩ := I.list hs
  rw [vals_ref1 r]
  refine set_of_list ns (I.ok.hd hc) p.isList rv.ints (by show ns.length + 1 < 4096; omega) fun h' tk c R hc' k => ?_
  exact ⟨.ref _, upd H s.heap.objs.size (SetO X.w s.heap.objs.size (fun j => decide (j ∈ ns)) c), I.laid (t' := tk) k (Nat.le_refl _) (setO_new R), rfl, q _ c (I.hok.fresh (Nat.le_refl _)) hc'⟩
/-- sorted(set(xs)) -/
def rSortSet (K : PySem.W.Frag) : List V → Hp → VK → Prop := fun vs H Q => ∃ (a : Addr) (ns : List Int), vs = [V.ref a] ∧ SqL K H a (ns.map V.int) ∧ ns.length < 64 ∧
  ∀ (q p : Addr) (o : HO) (ms : List Int), H q = none → upd H q o p = none → ms.Pairwise (· < ·) → (∀ k, k ∈ ms ↔ k ∈ ns) → ms.length ≤ ns.length → Q (.ref p) (upd (upd H q o) p (.lst (ms.map V.int)))
theorem PE.imp {X : Cx} {e : Expr} {t t' : TE} (h : PE X e t) (k : ∀ σ H Q, t' σ H Q → t σ H Q) : PE X e t' := ⟨fun pins s σ H Q I hw => h.run pins s σ H Q I (k σ H Q hw)⟩
theorem pe_sortSet {X : Cx} {p1 p2 pos pos2 : Pos} {e : Expr} {ta : TA} (hg : Gl X "sorted") (hm : X.mg "sorted" = none) (hg2 : Gl X "set") (hm2 : X.mg "set" = none) (ha : PA X [e] ta) (hc : X.calm = true := by rfl)
    (he : starEach [e] X.env = (false, eval e X.env) :: starEach [] X.env := by rfl) (he2 : starEach [.Call (.Name "set" p2) [e] [] pos2] X.env = (false, eval (.Call (.Name "set" p2) [e] [] pos2) X.env) :: starEach [] X.env := by rfl) :
    PE X (.Call (.Name "sorted" p1) [.Call (.Name "set" p2) [e] [] pos2] [] pos) (tCB (rSortSet X.K) ta) := by
  have key : ∀ (vs : List V) (H1 : Hp) (Q : VK), rSortSet X.K vs H1 Q → rSetI X.K X.w vs H1 (fun x H2 => rSortedSet X.w [x] H2 Q) := by
    rintro vs H1 Q ⟨a, ns, rfl, hs, h64, q⟩
    refine ⟨a, ns, rfl, hs, h64, fun p c hp hc' => ⟨p, _, c, rfl, upd_same, by omega, fun ms p' hms hmem hl hp' => ?_⟩⟩
    exact q p p' _ ms hp hp' hms (fun k => by rw [hmem k]; simp) (by omega)
  let te2 : TE := fun σ H Q' => ∃ Q : VK, ta σ H (fun vs H1 => rSortSet X.K vs H1 Q) ∧ Q' = (fun x H2 => rSortedSet X.w [x] H2 Q)
  have h2 : PE X (.Call (.Name "set" p2) [e] [] pos2) te2 := by
    refine ⟨fun pins s σ H Q' I h => ?_⟩
    obtain ⟨Q, h, rfl⟩ := h
    refine wpAny_Call_Name_kw (ld_blt I hg2 hm2 PyProof.Rows.boot_set ?_ (by decide) (by decide))
    exact PyProof.Rows.callWith_type1 (thn (ha.run pos2 pins s σ H _ I h) fun us s1 ⟨vs, H1, I1, r1, q1⟩ => cr_setI hc pins s1 σ H1 vs us _ I1 r1 (key vs H1 Q q1)) he rfl
  exact PE.imp (pe_callB (cr_sortedSet hc) hg hm PyProof.Rows.boot_sorted (pa_cons h2 pa_nil he2) (by decide) (by decide) he2) fun σ H Q h => ⟨Q, h, rfl⟩
section
variable {M : Mx} {δ : List SD} {R : D → Prop} {B : Bg} {K : PySem.W.Frag}
theorem rc_sortSet : RC B (rSortSet K) (fun ds R => ∃ ns : List Int, ds = [.list (ns.map .int)] ∧ ns.length < 64 ∧ ∀ ms : List Int, ms.Pairwise (· < ·) → (∀ k, k ∈ ms ↔ k ∈ ns) → ms.length ≤ ns.length → R (.list (ms.map .int))) := fun G H ds vs R Q ok p k q => by
  obtain ⟨ns, rfl, hl, r⟩ := k
  obtain ⟨v, rfl, p1⟩ := p.inv1
  obtain ⟨a, us, rfl, ha, ra⟩ := p1.lst_inv
  rw [ra.of_ints] at ha
  refine ⟨a, ns, rfl, SqL.of (ok.gh _ _ ha), hl, fun q' p' o ms hq hp hs hm hml => ?_⟩
  obtain ⟨st1, k1⟩ := Stp.newH ok o hq
  obtain ⟨st2, k2⟩ := Stp.new k1 (.lst (ms.map V.int)) hp
  exact q _ _ _ _ (r ms hs hm hml) (st1.trans st2) k2 (.lst upd_same (RpA.ints _))
end
end FK

/-! FkR: repr, where no guard stands around; defs that ask for it. -/
namespace FK
open PySem PySem.Spec PyProof.Rows L2
def rReprD (K : PySem.W.Frag) : List V → Hp → VK → Prop := fun xs H Q => ∃ a d, xs = [.ref a] ∧ Dp K H (.ref a) d ∧ d.showable = true ∧ d.hasDict = false ∧ d.depth ≤ 60 ∧ d.shown.length ≤ sizeLine ∧ Q (.str d.shown) H
theorem call_reprD {X : Cx} {k : Nat} (hg : X.A.guards = some []) (hr : Room k X.A) : CallR X (.builtin "repr") (rReprD X.K) := by
  intro pins s σ H xs us Q I r h
  obtain ⟨a, d, rfl, hd, hs, hn, hdp, hz, q⟩ := h
  obtain ⟨u, rfl, rx⟩ := vals1 r
  obtain ⟨as, rd⟩ := hd.reads I d _ _ rx
  obtain rfl : u = .ref a := rx
  have hu := hr.units
  exact repr_of_reads' rd hs (PyData.noDict_hsm hn) hg (by omega) (fun _ _ e => e) (fun h' u tk hk => ⟨.str d.shown, H, I.kept hk, ⟨_, rfl⟩, q⟩) hz
/-! ### defs that run only where no guard stands around -/
structure FnG (P : Program) (w : World) (K : PySem.W.Frag) (mg : Str → Option Value) (base : Heap) (CX : CXT) (k : Nat) (f : Addr) (fd : FuncData) (ps : List Str) (sp : Sp) : Prop where
  len : ∀ vs H Q E, sp vs H Q E → vs.length = ps.length
  run : ∀ (A : Around) (outer : List Env) (s : Shared) (H : Hp) (args : Args) (us : List Value) (vs : List V) (Q : VK) (E : XK), A.guards = some [] → Room k A → Env0 P w K mg base A outer s H → BindsTo s fd args (ps.zip us) → Vals vs us → sp vs H Q E →
    codeAny (model P w) A (.call (.ref f) args) (CR CX outer P w H s Q E) s
theorem guards_deeper {A : Around} {env : Env} (h : A.guards = some []) : (A.deeper env).guards = some [] := h
theorem fn_ofG {CX : CXT} {P : Program} {w : World} {K : PySem.W.Frag} {mg : Str → Option Value} {base : Heap} {k : Nat} {f : Addr} {name qual : Str} {params : Arguments} {body : List Stmt} {scope : Scope} {dV kV doc pm cdv ct oc : Value} {an od : Option Addr}
    {osl : Array (Option Value)} {N ps : List Str} {sp : Sp} (lk : K.lookup f = some ⟨oc, od, .func (PySem.W.fnOf name qual params body scope dV kV doc pm an cdv ct), osl⟩) (hcd : PySem.W.codeIn K cdv qual = true) (S : FnScope N ps scope)
    (len : ∀ vs H Q E, sp vs H Q E → vs.length = ps.length)
    (hbody : ∀ (A : Around) (outer : List Env) (s : Shared) (H : Hp) (vs : List V) (Q : VK) (E : XK), A.guards = some [] → Room k (A.deeper (envOfC qual scope s.heap.objs.size f cdv)) → sp vs H Q E →
      ∃ t, PSs (cxOf CX P w K mg base N qual scope f cdv A outer s H E) body t ∧ t { nx := fun _ H' => Q .non H', rt := Q } (L2.start N vs) H) :
    FnG P w K mg base CX (k + 1) f (PySem.W.fnOf name qual params body scope dV kV doc pm an cdv ct) ps sp := by
  refine ⟨len, fun A outer s H args us vs Q E gd hr e0 hb r hsp => ?_⟩
  have hl := len _ _ _ _ hsp
  have KX : K.In s.heap := e0.mod.kin.keeps fun b o e => (e0.bs b o e).1
  have lim : s.heap.NoLimit := e0.mod.nolimit.keeps fun b o e => (e0.bs b o e).1
  have hkind : ∀ y ∈ ps.zip us, scope.names.lookup y.1 = some .local ∨ (scope.names.lookup y.1 = some .cell ∧ ((cellsFrom (s.heap.objs.size + 1) scope.names []).lookup y.1).isSome = true) := fun ⟨n, v⟩ hy => by
    rcases S.par n (List.of_mem_zip hy).1 with q | q
    · exact .inl q
    · exact .inr ⟨q, PySem.W.cellsFrom_some _ _ _ (.inl q)⟩
  refine codeAny_call_function hr.depth (KX _ _ lk) rfl S.co S.gen rfl (PySem.W.codeRec_of KX hcd) (hb _ _ _ _ ?_)
  refine wpAny_newFunctionEnv_cells S.kind hkind fun env he s1 x => ?_
  subst he
  refine ⟨lim.keeps x.toInCall.keep, codeAny_func ?_⟩
  obtain ⟨t, ht, hq⟩ := hbody A outer s H vs Q E gd (hr.deeper _) hsp
  have I : Inv (cxOf CX P w K mg base N qual scope f cdv A outer s H E) [] (L2.start N vs) H s1 := inv_start S hr.hd e0 hl r x
  refine wpAny_mono (ht.run [] s1 (L2.start N vs) H _ I hq) (fun fl s' hs => ?_) fun e s' hs => hs
  have fin : ∀ {σ' : L2.St} {H' : Hp} {v : V} {u : Value}, Inv (cxOf CX P w K mg base N qual scope f cdv A outer s H E) [] σ' H' s' → RelV v u → Q v H' → CE outer P w H s Q u s' :=
    fun {σ' H' v u} J rv q => ⟨v, H', J.os, J.bare, J.base, J.hok, rv, q⟩
  cases fl with
  | ret u =>
    obtain ⟨v, σ', H', J, rv, q⟩ := hs
    exact fin J rv q
  | next =>
    obtain ⟨σ', H', J, q⟩ := hs
    exact fin (v := V.non) (u := Value.none) J rfl q
  | brk =>
    obtain ⟨_, _, _, q⟩ := hs
    exact False.elim q
  | cont =>
    obtain ⟨_, _, _, q⟩ := hs
    exact False.elim q
section
variable {X : Cx} {CX : CXT} {k : Nat} {f : Addr} {fd : FuncData} {ps : List Str} {sp : Sp} {dvs : List V} {ds : List Value} {E : XK} {x : Str} {p pos : Pos} {e : Expr} {es : List Expr} {t : TA}
theorem run_fnG {pins : List (Addr × Obj)} {σ : L2.St} {H : Hp} {s : Shared} {Q : VK} {us : List Value} {vs : List V} (F : FnG X.prog X.w X.K X.mg X.base CX k f fd ps sp) (gd : X.A.guards = some []) (hr : Room k X.A) (hb : Binds X.K fd ps ds) (hd : Vals dvs ds) (hx : Passes CX X E)
    (I : Inv X pins σ H s) (r : Vals vs us) (h : sp (vs ++ dvs) H Q E) : wpAny (model X.prog X.w) X.A (call (.ref f) us) (EP X pins σ Q) X.xe s := by
  have r2 : Vals (vs ++ dvs) (us ++ ds) := r.append hd
  have hl : (us ++ ds).length = ps.length := by rw [← r2.length]; exact F.len _ _ _ _ h
  refine wpAny_call (codeAny_mono (F.run X.A X.stack s H ⟨us, []⟩ (us ++ ds) (vs ++ dvs) Q E gd hr I.env0 (hb s us I.kIn hl) r2 h) fun r s' hq => ?_)
  cases r with
  | error e => exact hx pins σ H s e s' I hq
  | ok fl =>
    cases fl with
    | ret u => exact I.after hq
    | next => exact False.elim hq
    | brk => exact False.elim hq
    | cont => exact False.elim hq
theorem pe_callGd (F : FnG X.prog X.w X.K X.mg X.base CX k f fd ps sp) (gd : X.A.guards = some []) (hr : Room k X.A) (hg : Gl X x) (hm : X.mg x = some (.ref f)) (hk : PySem.W.keepIn X.K (.ref f) = true) (hb : Binds X.K fd ps ds) (hd : Vals dvs ds) (hx : Passes CX X E)
    (ha : PA X (e :: es) t) (hdb : (x == ("__debug__" : Str)) = false := by decide) (he : starEach (e :: es) X.env = (false, eval e X.env) :: starEach es X.env := by rfl) (hpl : (backTo pos (starEach es X.env)).any (·.1) = false := by rfl) :
    PE X (.Call (.Name x p) (e :: es) [] pos) (tCall sp dvs E t) := by
  refine ⟨fun pins s σ H Q I h => ?_⟩
  refine wpAny_Call_Name_kw (ld_glob I hg hm ?_ hdb)
  refine PySem.W.callWith_K (h₀ := X.base) I.ok.mod.kin hk (thn (ha.run pos pins s σ H _ I h) fun us s1 ⟨vs, H1, I1, r, q⟩ => ⟨I1.kIn, ?_⟩) he hpl
  exact run_fnG F gd hr hb hd hx I1 r q
end
structure ClG (P : Program) (w : World) (K : PySem.W.Frag) (mg : Str → Option Value) (base : Heap) (k : Nat) (x : Str) (sp : Sp) : Prop where
  ex : ∃ (f : Addr) (fd : FuncData) (ps : List Str), FnG P w K mg base CX0 k f fd ps sp ∧ mg x = some (.ref f) ∧ PySem.W.keepIn K (.ref f) = true ∧ Binds K fd ps []
theorem FnG.mono {P : Program} {w : World} {K : PySem.W.Frag} {mg : Str → Option Value} {base : Heap} {CX : CXT} {j k : Nat} {f : Addr} {fd : FuncData} {ps : List Str} {sp : Sp} (F : FnG P w K mg base CX j f fd ps sp) (h : j ≤ k) :
    FnG P w K mg base CX k f fd ps sp := ⟨F.len, fun A outer s H args us vs Q E gd hr => F.run A outer s H args us vs Q E gd (hr.mono h)⟩
theorem pe_clG {X : Cx} {k j : Nat} {x : Str} {sp : Sp} {p pos : Pos} {e : Expr} {es : List Expr} {t : TA} (c : ClG X.prog X.w X.K X.mg X.base k x sp) (gd : X.A.guards = some []) (hr : Room j X.A) (hk : k ≤ j) (hg : Gl X x) (ha : PA X (e :: es) t)
    (hdb : (x == ("__debug__" : Str)) = false := by decide) (he : starEach (e :: es) X.env = (false, eval e X.env) :: starEach es X.env := by rfl) (hpl : (backTo pos (starEach es X.env)).any (·.1) = false := by rfl) :
    PE X (.Call (.Name x p) (e :: es) [] pos) (tCall sp [] E0 t) := by
  obtain ⟨f, fd, ps, F, hm, kp, b⟩ := c.ex
  exact pe_callGd F gd (hr.mono hk) hg hm kp b .nil pass0 ha hdb he hpl
section
variable {P : Program} {w : World} {K : PySem.W.Frag} {mg : Str → Option Value} {base : Heap} {k : Nat} {x qual : Str} {st : Stmt} {f : Addr} {fd : FuncData} {N ps : List Str} {t : TS} {C : Ct}
abbrev WalksG (P : Program) (w : World) (K : PySem.W.Frag) (mg : Str → Option Value) (base : Heap) (k : Nat) (N : List Str) (qual : Str) (st : Stmt) (f : Addr) (t : TS) : Prop :=
  ∀ (cdv : Value) (A : Around) (outer : List Env) (s : Shared) (H : Hp) (E : XK), A.guards = some [] → Room k (A.deeper (envOfC qual (defScope st) s.heap.objs.size f cdv)) → PSs (cxOf CX0 P w K mg base N qual (defScope st) f cdv A outer s H E).nox (defBody st) t
theorem Fun.okG {sp : Sp} (F : Fun K x qual st f fd) (S : FnScope N ps (defScope st)) (hw : WalksG P w K mg base k N qual st f t)
    (hs : ∀ vs H Q E, sp vs H Q E → vs.length = ps.length ∧ t { nx := fun _ H' => Q .non H', rt := Q } (L2.start N vs) H) : FnG P w K mg base CX0 (k + 1) f fd ps sp := by
  obtain ⟨oc, od, kV, doc, pm, an, cdv, ct, osl, rfl, lk, hcd⟩ := F.ex
  exact fn_ofG lk hcd S (fun vs H Q E h => (hs vs H Q E h).1) fun A outer s H vs Q E gd hr hsp => ⟨t, (hw cdv A outer s H E gd hr).nox, (hs vs H Q E hsp).2⟩
theorem cl_spG {sp : Sp} (F : Fun K x qual st f fd) (S : FnScope N ps (defScope st)) (hb : Binds K fd ps []) (hm : mg x = some (.ref f)) (hw : WalksG P w K mg base k N qual st f t)
    (hs : ∀ vs H Q E, sp vs H Q E → vs.length = ps.length ∧ t { nx := fun _ H' => Q .non H', rt := Q } (L2.start N vs) H) : ClG P w K mg base (k + 1) x sp :=
  ⟨f, fd, ps, Fun.okG F S hw hs, hm, F.kp, hb⟩
theorem cl_PG (F : Fun K x qual st f fd) (S : FnScope N ps (defScope st)) (hb : Binds K fd ps []) (hm : mg x = some (.ref f)) (hw : WalksG P w K mg base k N qual st f t)
    (hlen : ∀ a, (C.args a).length = ps.length) (hs : ∀ a, C.pre a → ∀ M : Mx, M.B = {} → SS M t ((C.args a).map SD.dat ++ slots N ps.length) (fun _ => C.post a .none) ⟨C.post a, fun _ => False, fun _ => False⟩) : ClG P w K mg base (k + 1) x (spP C) :=
  cl_spG F S hb hm hw fun vs H Q E h => cl_G hlen hs vs H Q h
end
end FK

/-! FkR2: repr of data: bounds of its text. -/
namespace FK
open PySem PySem.Spec PyProof.Rows L2
/-- data of depth at most n and weight at most wt that has a short text -/
structure Shows (wt n : Nat) (d : D) : Prop where
  sh : d.showable = true
  nd : d.hasDict = false
  dp : d.depth ≤ n
  ls : d.leavesShort 13 = true
  wt : d.weight ≤ wt
theorem Shows.mono {a b n m : Nat} {d : D} (s : Shows a n d) (h1 : a ≤ b) (h2 : n ≤ m) : Shows b m d := ⟨s.sh, s.nd, Nat.le_trans s.dp h2, s.ls, Nat.le_trans s.wt h1⟩
theorem Shows.text {wt n : Nat} {d : D} (s : Shows wt n d) (h : wt ≤ 1000000) : d.shown.length ≤ sizeLine := by
  have a := PyData.shown_le 13 (by decide) d s.ls
  have b := s.wt
  rw [sizeLine_eq]
  omega
theorem Shows.bool (b : Bool) : Shows 0 0 (.bool b) := ⟨by simp [PyData.showable], by simp [PyData.hasDict], by simp [PyData.depth], by simp [PyData.leavesShort], by simp [PyData.weight]⟩
theorem Shows.int {i : Int} (h1 : 0 ≤ i) (h2 : i < 1000) : Shows 10 0 (.int i) := by
  have hl : i.natAbs.log2 < 10 := by
    by_cases e : i.natAbs = 0
    · rw [e]; decide
    · exact (Nat.log2_lt e).mpr (by omega)
  refine ⟨?_, by simp [PyData.hasDict], by simp [PyData.depth], ?_, ?_⟩
  · simp only [PyData.showable]
    exact decide_eq_true (by omega)
  · simp only [PyData.leavesShort]
    exact decide_eq_true (PyData.shown_int_le2 (by omega) (by omega))
  · simp only [PyData.weight]
    split <;> omega
theorem Shows.all {wt n : Nat} : ∀ {ds : List D}, (∀ d ∈ ds, Shows wt n d) → PyData.showableAll ds = true ∧ PyData.hasDictAll ds = false ∧ PyData.depthAll ds ≤ n ∧ PyData.leavesShortAll 13 ds = true ∧ PyData.weightAll ds ≤ (wt + 1) * ds.length
  | [], _ => ⟨by simp [PyData.showableAll], by simp [PyData.hasDictAll], by simp [PyData.depthAll], by simp [PyData.leavesShortAll], by simp [PyData.weightAll]⟩
  | d :: ds, h => by
    have a := h d (List.mem_cons_self ..)
    obtain ⟨b1, b2, b3, b4, b5⟩ := Shows.all (ds := ds) fun x hx => h x (List.mem_cons_of_mem _ hx)
    have w := a.wt
    refine ⟨by simp [PyData.showableAll, a.sh, b1], by simp [PyData.hasDictAll, a.nd, b2], ?_, by simp [PyData.leavesShortAll, a.ls, b4], ?_⟩
    · simp only [PyData.depthAll]
      exact Nat.max_le.mpr ⟨a.dp, b3⟩
    · simp only [PyData.weightAll, List.length_cons, Nat.mul_succ]
      omega
theorem Shows.list {wt n : Nat} {ds : List D} (h : ∀ d ∈ ds, Shows wt n d) : Shows ((wt + 1) * ds.length) (n + 1) (.list ds) := by
  obtain ⟨b1, b2, b3, b4, b5⟩ := Shows.all h
  exact ⟨by simpa [PyData.showable] using b1, by simpa [PyData.hasDict] using b2, by simp only [PyData.depth]; omega, by simpa [PyData.leavesShort] using b4, by simpa [PyData.weight] using b5⟩
theorem Shows.tuple {wt n : Nat} {ds : List D} (h : ∀ d ∈ ds, Shows wt n d) : Shows ((wt + 1) * ds.length) (n + 1) (.tuple ds) := by
  obtain ⟨b1, b2, b3, b4, b5⟩ := Shows.all h
  exact ⟨by simpa [PyData.showable] using b1, by simpa [PyData.hasDict] using b2, by simp only [PyData.depth]; omega, by simpa [PyData.leavesShort] using b4, by simpa [PyData.weight] using b5⟩
/-- the reading of repr on data -/
theorem rc_repr {B : Bg} {K : PySem.W.Frag} : RC B (rReprD K) (fun ds R => ∃ d, ds = [.list d] ∧ (∃ wt n, Shows wt n (.list d) ∧ wt ≤ 1000000 ∧ n ≤ 60) ∧ R (.str (PyData.shown (.list d)))) := fun G H ds vs R Q ok p k q => by
  obtain ⟨d, rfl, ⟨wt, n, s, hw, hn⟩, r⟩ := k
  cases p with
  | cons p0 p1 =>
    cases p1
    have hd := (p0.mono ok.gh).dp (K := K)
    cases p0 with
    | lst _ _ => exact ⟨_, _, rfl, hd, s.sh, s.nd, Nat.le_trans s.dp hn, s.text hw, q _ _ _ _ r (Stp.refl _ _ _) ok (.str _)⟩
end FK

/-! FkT: the bodies of the defs as terms of rules. Printed by gen.py. -/
namespace FK
open PySem L2
def n_things_within : List Str := ["house", "state", "floor", "thing", "place"]
def p_things_within : List Str := ["house", "state", "floor"]
def t_things_within (K : PySem.W.Frag) : TS :=
    (tRet (tCB (rTupOf) (tCons (tLc (iEnu1 (tCons (tVar 1) tNil)) (gTup K 2 (gCons (gName 3) (gCons (gName 4) gNil))) (tTest (tOp (rI0 fun i j => .bl (decide (i ≤ j))) (tVar 4) (tVar 2))) (tVar 3) [3, 4]) tNil)))
def n_sizes_of : List Str := ["house", "state", "floor"]
def p_sizes_of : List Str := ["house", "state"]
def t_sizes_of (K : PySem.W.Frag) (f_things_within : Sp) : TS :=
    (tRet (tCB (rTupOf) (tCons (tLc (iRng1 (tCons (tCB (rLen K) (tCons (tOp (rIx K) (tVar 0) (tC (.int 1))) tNil)) tNil)) (gName 2) tYes (tCB (rLen K) (tCons (tCall f_things_within [] E0 (tCons (tVar 0) (tCons (tVar 1) (tCons (tVar 2) tNil)))) tNil)) [2]) tNil)))
def n_known_sizes : List Str := ["knowledge", "word"]
def p_known_sizes : List Str := ["knowledge"]
def t_known_sizes (K : PySem.W.Frag) : TS :=
    (tRet (tCB (rTupOf) (tCons (tLc (iSeq K (tOp (rIx K) (tVar 0) (tC (.int 1)))) (gName 1) tYes (tOp (rIx K) (tVar 1) (tUn (rU fun i => .int (-i)) (tC (.int 1)))) [1]) tNil)))
def n_fits : List Str := ["house", "knowledge", "state", "order", "words", "counts", "place", "thing", "floor", "word"]
def p_fits : List Str := ["house", "knowledge", "state"]
def t_fits (K : PySem.W.Frag) (f_sizes_of f_known_sizes : Sp) : TS :=
    (tSeq (tAsg (tVar 1) (gTup K 2 (gCons (gName 3) (gCons (gName 4) gNil))))
    (tSeq (tIfS (tTest (tOp (rNeD K) (tCall f_sizes_of [] E0 (tCons (tVar 0) (tCons (tVar 2) tNil))) (tCall f_known_sizes [] E0 (tCons (tVar 1) tNil)))) (tRet (tC (.bl false))) tNext)
    (tSeq (tAsg (tOp rMul3 (tLst (tCons (tC (.int 0)) tNil)) (tCB (rLen K) (tCons (tVar 4) tNil))) (gName 5))
    (tSeq (tFor (iEnu1 (tCons (tVar 3) tNil)) (gTup K 2 (gCons (gName 6) (gCons (gName 7) gNil))) (tFor (iEnu1 (tCons (tVar 4) tNil)) (gTup K 2 (gCons (gName 8) (gCons (gName 9) gNil))) (tSeq (tAugS (tVar 5) (tVar 8) (tCB (rInt) (tCons (tOp (rI0 fun i j => .bl (decide (i ≤ j))) (tOp (rIx K) (tVar 2) (tVar 7)) (tVar 8)) tNil)) rGetL (ipI fun i j => i + j) rSetL)
    (tIfS (tTest (tOp (rI0 fun i j => .bl (decide (i < j))) (tOp (rIx K) (tVar 5) (tVar 8)) (tOp (rIx K) (tVar 9) (tOp rAdd3 (tVar 6) (tC (.int 1)))))) (tRet (tC (.bl false))) tNext))))
    (tRet (tC (.bl true)))))))
def n_may_be_beyond : List Str := ["order", "word", "lot", "count", "place", "thing"]
def p_may_be_beyond : List Str := ["order", "word", "lot"]
def t_may_be_beyond (K : PySem.W.Frag) : TS :=
    (tSeq (tAsg (tC (.int 0)) (gName 3))
    (tSeq (tFor (iEnu2 (tCons (tVar 0) (tCons (tC (.int 1)) tNil))) (gTup K 2 (gCons (gName 4) (gCons (gName 5) gNil))) (tSeq (tAug 3 (tCB (rInt) (tCons (tOp (rIn2 K) (tVar 5) (tVar 2)) tNil)) (ipI fun i j => i + j))
    (tIfS (tTest (tOp (rI0 fun i j => .bl (decide (j < i))) (tVar 3) (tOp (rI0 fun i j => .int (i - j)) (tVar 4) (tOp (rIx K) (tVar 1) (tVar 4))))) (tRet (tC (.bl false))) tNext)))
    (tRet (tC (.bl true)))))
def n_left_within : List Str := ["knowledge", "floor", "eager", "order", "word", "beyond", "thing"]
def p_left_within : List Str := ["knowledge", "floor", "eager"]
def t_left_within (K : PySem.W.Frag) (f_may_be_beyond : Sp) : TS :=
    (tSeq (tAsg (tTupF (tCons (tOp (rIx K) (tVar 0) (tC (.int 0))) (tCons (tOp (rIx K) (tOp (rIx K) (tVar 0) (tC (.int 1))) (tVar 1)) (tCons (tLst tNil) tNil)))) (gTup K 3 (gCons (gName 3) (gCons (gName 4) (gCons (gName 5) gNil)))))
    (tSeq (tFor (iSeq K (tVar 2)) (gName 6) (tIfS (tB (tCall f_may_be_beyond [] E0 (tCons (tVar 3) (tCons (tVar 4) (tCons (tLst (StX.tStar K (tVar 5) (tCons (tVar 6) tNil))) tNil))))) (tDrop (tBM K "list" rAppend (tVar 5) (tCons (tVar 6) tNil))) tNext))
    (tRet (tLc (iSeq K (tVar 3)) (gName 6) (tTest (tOp (rNotIn2 K) (tVar 6) (tVar 5))) (tVar 6) [6]))))
def n_state_around : List Str := ["knowledge", "lot", "sizes", "thing", "line", "state", "place", "size"]
def p_state_around : List Str := ["knowledge", "lot"]
def t_state_around (K : PySem.W.Frag) (f_known_sizes : Sp) : TS :=
    (tSeq (tAsg (tCall f_known_sizes [] E0 (tCons (tVar 0) tNil)) (gName 2))
    (tSeq (tAsg (tLst (StX.tStar K (tVar 1) (StX.tStar K (tLc (iSeq K (tOp (rIx K) (tVar 0) (tC (.int 0)))) (gName 3) (tTest (tOp (rNotIn2 K) (tVar 3) (tVar 1))) (tVar 3) [3]) tNil))) (gName 4))
    (tSeq (tAsg (tLc (iSeq K (tVar 4)) (gName 3) tYes (tCB (rLen K) (tCons (tVar 2) tNil)) [3]) (gName 5))
    (tSeq (tFor (iEnu1 (tCons (tVar 4) tNil)) (gTup K 2 (gCons (gName 6) (gCons (gName 3) gNil))) (tAsg (tCB (rLen K) (tCons (tLc (iSeq K (tVar 2)) (gName 7) (tTest (tOp (rI0 fun i j => .bl (decide (i ≤ j))) (tVar 7) (tVar 6))) (tVar 7) [7]) tNil)) (gSub (tVar 5) (tVar 3) rSetL)))
    (tRet (tCB (rTupOf) (tCons (tVar 5) tNil)))))))
def n_extreme_within : List Str := ["knowledge", "lot", "floor", "eager", "found", "thing"]
def p_extreme_within : List Str := ["knowledge", "lot", "floor", "eager"]
def t_extreme_within (K : PySem.W.Frag) (f_state_around f_left_within : Sp) : TS :=
    (tSeq (tAsg (tCall f_left_within [] E0 (tCons (tVar 0) (tCons (tVar 2) (tCons (tVar 3) tNil)))) (gName 4))
    (tRet (tTupF (tCons (tCB (rLen K) (tCons (tLc (iSeq K (tVar 4)) (gName 5) (tTest (tOp (rIn2 K) (tVar 5) (tVar 1))) (tVar 5) [5]) tNil)) (tCons (tCall f_state_around [] E0 (tCons (tVar 0) (tCons (tVar 4) tNil))) tNil)))))
def n_least_within : List Str := ["house", "knowledge", "lot", "floor", "thing"]
def p_least_within : List Str := ["house", "knowledge", "lot", "floor"]
def t_least_within (K : PySem.W.Frag) (f_extreme_within : Sp) : TS :=
    (tRet (tCall f_extreme_within [] E0 (tCons (tVar 1) (tCons (tVar 2) (tCons (tVar 3) (tCons (tLst (StX.tStar K (tVar 2) (StX.tStar K (tLc (iRng1 (tCons (tOp (rIx K) (tVar 0) (tC (.int 0))) tNil)) (gName 4) (tTest (tOp (rNotIn2 K) (tVar 4) (tVar 2))) (tVar 4) [4]) tNil))) tNil))))))
def n_cuts_of : List Str := ["word", "place"]
def p_cuts_of : List Str := ["word"]
def t_cuts_of (K : PySem.W.Frag) : TS :=
    (tRet (tLc (iRng2 (tCons (tC (.int 1)) (tCons (tOp (rI0 fun i j => .int (i - j)) (tCB (rLen K) (tCons (tVar 0) tNil)) (tC (.int 1))) tNil))) (gName 1) (tTest (tChain (rI0 fun i j => .bl (decide (i < j))) (rEqD K) (tOp (rIx K) (tVar 0) (tOp (rI0 fun i j => .int (i - j)) (tVar 1) (tC (.int 1)))) (tOp (rIx K) (tVar 0) (tVar 1)) (tOp (rIx K) (tVar 0) (tOp rAdd3 (tVar 1) (tC (.int 1)))))) (tVar 1) [1]))
def n_blocks_of : List Str := ["knowledge", "order", "found", "word", "blocks", "begin", "cut"]
def p_blocks_of : List Str := ["knowledge"]
def t_blocks_of (K : PySem.W.Frag) (f_cuts_of : Sp) : TS :=
    (tSeq (tPar 1 2 (tCons (tOp (rIx K) (tVar 0) (tC (.int 0))) (tCons (tLst tNil) tNil)))
    (tSeq (tFor (iSeq K (tOp (rIx K) (tVar 0) (tC (.int 1)))) (gName 3) (tSeq (tPar 4 5 (tCons (tLst tNil) (tCons (tC (.int 0)) tNil)))
    (tSeq (tFor (iSeq K (tCall f_cuts_of [] E0 (tCons (tVar 3) tNil))) (gName 6) (tSeq (tDrop (tBM K "list" rAppend (tVar 4) (tCons (tTupF (tCons (tCB (rTupOf) (tCons (tCB (rSortB) (tCons (tSl (rSl2 K) (tVar 1) (tPart (tVar 5)) (tPart (tVar 6))) tNil)) tNil)) (tCons (tOp (rIx K) (tVar 3) (tVar 6)) tNil))) tNil)))
    (tAsg (tVar 6) (gName 5))))
    (tDrop (tBM K "list" rAppend (tVar 2) (tCons (tCB (rTupOf) (tCons (tVar 4) tNil)) tNil))))))
    (tRet (tCB (rTupOf) (tCons (tVar 2) tNil)))))
def n_normal_of : List Str := ["knowledge", "order", "words", "found", "begin", "place", "word"]
def p_normal_of : List Str := ["knowledge"]
def t_normal_of (K : PySem.W.Frag) (f_cuts_of : Sp) : TS :=
    (tSeq (tAsg (tVar 0) (gTup K 2 (gCons (gName 1) (gCons (gName 2) gNil))))
    (tSeq (tPar 3 4 (tCons (tLst tNil) (tCons (tC (.int 0)) tNil)))
    (tSeq (tFor (iRng2 (tCons (tC (.int 1)) (tCons (tOp rAdd3 (tCB (rLen K) (tCons (tVar 1) tNil)) (tC (.int 1))) tNil))) (gName 5) (tIfS (tOr (tTest (tOp (rEqD K) (tVar 5) (tCB (rLen K) (tCons (tVar 1) tNil)))) (tTest (tOp (rNeD K) (tLc (iSeq K (tVar 2)) (gName 6) (tTest (tOp (rIn2 K) (tVar 5) (tCall f_cuts_of [] E0 (tCons (tVar 6) tNil)))) (tVar 6) [6]) (tLst tNil)))) (tSeq (tDrop (tBM K "list" rExtend (tVar 3) (tCons (tCB (rSortB) (tCons (tSl (rSl2 K) (tVar 1) (tPart (tVar 4)) (tPart (tVar 5))) tNil)) tNil)))
    (tAsg (tVar 5) (gName 4))) tNext))
    (tRet (tTupF (tCons (tCB (rTupOf) (tCons (tVar 3) tNil)) (tCons (tVar 2) tNil)))))))
def n_alike : List Str := ["one", "other"]
def p_alike : List Str := ["one", "other"]
def t_alike (K : PySem.W.Frag) (f_normal_of : Sp) : TS :=
    (tRet (tOp (rEqD K) (tCall f_normal_of [] E0 (tCons (tVar 0) tNil)) (tCall f_normal_of [] E0 (tCons (tVar 1) tNil))))
def n_needs_of : List Str := ["knowledge", "found", "floor", "word", "cut"]
def p_needs_of : List Str := ["knowledge"]
def t_needs_of (K : PySem.W.Frag) (f_cuts_of : Sp) : TS :=
    (tSeq (tAsg (tLst tNil) (gName 1))
    (tSeq (tFor (iEnu1 (tCons (tOp (rIx K) (tVar 0) (tC (.int 1))) tNil)) (gTup K 2 (gCons (gName 2) (gCons (gName 3) gNil))) (tDrop (tBM K "list" rExtend (tVar 1) (tCons (tLc (iSeq K (tCall f_cuts_of [] E0 (tCons (tVar 3) tNil))) (gName 4) tYes (tTupF (tCons (tCB (rTupOf) (tCons (tCB (rSortB) (tCons (tSl (rSl2 K) (tOp (rIx K) (tVar 0) (tC (.int 0))) tNoPart (tPart (tVar 4))) tNil)) tNil)) (tCons (tVar 2) (tCons (tOp (rIx K) (tVar 3) (tVar 4)) tNil)))) [4]) tNil))))
    (tRet (tVar 1))))
def n_lies_in : List Str := ["house", "one", "other", "lot", "floor", "number"]
def p_lies_in : List Str := ["house", "one", "other"]
def t_lies_in (K : PySem.W.Frag) (f_needs_of f_least_within f_known_sizes : Sp) : TS :=
    (tSeq (tIfS (tTest (tOp (rNeD K) (tCall f_known_sizes [] E0 (tCons (tVar 1) tNil)) (tCall f_known_sizes [] E0 (tCons (tVar 2) tNil)))) (tRet (tC (.bl false))) tNext)
    (tRet (tCB (rAll K) (tCons (tLc (iSeq K (tCall f_needs_of [] E0 (tCons (tVar 2) tNil))) (gTup K 3 (gCons (gName 3) (gCons (gName 4) (gCons (gName 5) gNil)))) tYes (tOp (rI0 fun i j => .bl (decide (j ≤ i))) (tOp (rIx K) (tCall f_least_within [] E0 (tCons (tVar 0) (tCons (tVar 1) (tCons (tVar 3) (tCons (tVar 4) tNil))))) (tC (.int 0))) (tVar 5)) [3, 4, 5]) tNil))))
def n__law_bag : List Str := ["_law_script", "_law_cell"]
def p__law_bag : List Str := ["_law_script"]
def t__law_bag (K : PySem.W.Frag) : TS :=
    (tRet (tLst (tCons (tC (.int 0)) (tCons (tC (.int 1234567891)) (tCons (tC (.int 0)) (tCons (tLc (iSeq K (tSl (rSl2 K) (tVar 0) tNoPart (tPart (tC (.int 63))))) (gName 1) tYes (tCB (rAbs) (tCons (tVar 1) tNil)) [1]) tNil))))))
def n__law_take : List Str := ["_law_bag_here", "_law_many", "_law_cell", "_law_stirred_here", "_law_value", "_law_begin", "_law_second"]
def p__law_take : List Str := ["_law_bag_here", "_law_many"]
def t__law_take (K : PySem.W.Frag) : TS :=
    (tSeq (tIfS (tTest (tOp (rEqD K) (tOp (rIx K) (tVar 0) (tC (.int 0))) (tC (.int 0)))) (tSeq (tAsg (tOp (rIx K) (tOp rAdd3 (tSl (rSl2 K) (tOp (rIx K) (tVar 0) (tC (.int 3))) (tPart (tOp (rIx K) (tVar 0) (tC (.int 2)))) tNoPart) (tLst (tCons (tC (.int 0)) tNil))) (tC (.int 0))) (gName 2))
    (tSeq (tAugS (tVar 0) (tC (.int 2)) (tC (.int 1)) rGetL (ipI fun i j => i + j) rSetL)
    (tSeq (tIfS (tTest (tOp (rI0 fun i j => .bl (decide (j ≤ i))) (tVar 2) (tOp (rI CPow fun i j => .int (i ^ j.toNat)) (tC (.int 10)) (tC (.int 18))))) (tAsg (tVar 2) (gSub (tVar 0) (tC (.int 0)) rSetL)) tNext)
    (tSeq (tAsg (tOp rAdd3 (tOp rAdd3 (tOp rMul3 (tOp (rIx K) (tVar 0) (tC (.int 1))) (tC (.int 48271))) (tOp (rI (fun _ j => 0 < j) fun i j => .int (i % j)) (tCB (rInt) (tCons (tVar 2) tNil)) (tC (.int 2147483647)))) (tOp rMul3 (tC (.int 7919)) (tOp (rIx K) (tVar 0) (tC (.int 2))))) (gName 3))
    (tAsg (tOp (rI (fun _ j => 0 < j) fun i j => .int (i % j)) (tCB (rInt) (tCons (tVar 3) tNil)) (tC (.int 2147483647))) (gSub (tVar 0) (tC (.int 1)) rSetL)))))) tNext)
    (tSeq (tIfS (tTest (tOp (rI0 fun i j => .bl (decide (j < i))) (tOp (rIx K) (tVar 0) (tC (.int 0))) (tC (.int 0)))) (tSeq (tAsg (tOp (rI (fun _ j => 0 < j) fun i j => .int (i % j)) (tCB (rInt) (tCons (tOp (rIx K) (tVar 0) (tC (.int 0))) tNil)) (tVar 1)) (gName 4))
    (tSeq (tAsg (tOp (rI CDiv fun i j => .int (i / j)) (tCB (rInt) (tCons (tOp (rIx K) (tVar 0) (tC (.int 0))) tNil)) (tVar 1)) (gSub (tVar 0) (tC (.int 0)) rSetL))
    (tRet (tVar 4)))) tNext)
    (tSeq (tAsg (tOp (rI (fun _ j => 0 < j) fun i j => .int (i % j)) (tCB (rInt) (tCons (tOp rMul3 (tOp rAdd3 (tOp (rIx K) (tVar 0) (tC (.int 1))) (tC (.int 1))) (tC (.int 39373))) tNil)) (tC (.int 1000000007))) (gName 5))
    (tSeq (tAsg (tOp (rI (fun _ j => 0 < j) fun i j => .int (i % j)) (tCB (rInt) (tCons (tOp rMul3 (tOp (rI (fun _ j => 0 < j) fun i j => .int (i % j)) (tCB (rInt) (tCons (tOp rMul3 (tVar 5) (tVar 5)) tNil)) (tC (.int 998244353))) (tC (.int 30011))) tNil)) (tC (.int 998244353))) (gName 6))
    (tRet (tOp (rI (fun _ j => 0 < j) fun i j => .int (i % j)) (tCB (rInt) (tCons (tOp (rI CDiv fun i j => .int (i / j)) (tVar 6) (tC (.int 7))) tNil)) (tVar 1)))))))
def n__law_one : List Str := ["_law_bag_here", "_law_things"]
def p__law_one : List Str := ["_law_bag_here", "_law_things"]
def t__law_one (K : PySem.W.Frag) (f__law_take : Sp) : TS :=
    (tRet (tOp (rIx K) (tVar 1) (tCall f__law_take [] E0 (tCons (tVar 0) (tCons (tCB (rLen K) (tCons (tVar 1) tNil)) tNil)))))
def n__law_mixed : List Str := ["_law_bag_here", "_law_things", "_law_found", "_law_thing"]
def p__law_mixed : List Str := ["_law_bag_here", "_law_things"]
def t__law_mixed (K : PySem.W.Frag) (f__law_take : Sp) : TS :=
    (tSeq (tAsg (tLst tNil) (gName 2))
    (tSeq (tFor (iSeq K (tVar 1)) (gName 3) (tDrop (tBM K "list" rInsert (tVar 2) (tCons (tCall f__law_take [] E0 (tCons (tVar 0) (tCons (tOp rAdd3 (tCB (rLen K) (tCons (tVar 2) tNil)) (tC (.int 1))) tNil))) (tCons (tVar 3) tNil)))))
    (tRet (tVar 2))))
def n__law_flat : List Str := ["_law_rows", "_law_found", "_law_row"]
def p__law_flat : List Str := ["_law_rows"]
def t__law_flat (K : PySem.W.Frag) : TS :=
    (tSeq (tAsg (tLst tNil) (gName 1))
    (tSeq (tFor (iSeq K (tVar 0)) (gName 2) (tDrop (tBM K "list" rExtend (tVar 1) (tCons (tVar 2) tNil))))
    (tRet (tVar 1))))
def n__law_house : List Str := ["_law_bag_here", "_law_things", "_law_floors", "_law_rooms", "_law_many", "_law_found", "_law_left", "_law_floor"]
def p__law_house : List Str := ["_law_bag_here", "_law_things", "_law_floors", "_law_rooms"]
def t__law_house (K : PySem.W.Frag) (f__law_take f__law_one : Sp) : TS :=
    (tSeq (tAsg (tCall f__law_one [] E0 (tCons (tVar 0) (tCons (tLst (tCons (tVar 1) (tCons (tVar 1) (tCons (tC (.int 3)) (tCons (tC (.int 2)) (tCons (tC (.int 1)) (tCons (tC (.int 0)) (tCons (tCall f__law_take [] E0 (tCons (tVar 0) (tCons (tOp rAdd3 (tVar 1) (tC (.int 1))) tNil))) tNil)))))))) tNil))) (gName 4))
    (tSeq (tPar 5 6 (tCons (tLst tNil) (tCons (tVar 3) tNil)))
    (tSeq (tFor (iRng1 (tCons (tCall f__law_one [] E0 (tCons (tVar 0) (tCons (tLst (tCons (tVar 2) (tCons (tC (.int 2)) (tCons (tVar 2) (tCons (tC (.int 1)) (tCons (tOp rAdd3 (tC (.int 1)) (tCall f__law_take [] E0 (tCons (tVar 0) (tCons (tVar 2) tNil)))) tNil)))))) tNil))) tNil)) (gName 7) (tIfS (tAnd (tTest (tOp (rI0 fun i j => .bl (decide (j < i))) (tVar 6) (tC (.int 0)))) (tTest (tOp (rI0 fun i j => .bl (decide (i < j))) (tVar 7) (tVar 2)))) (tSeq (tDrop (tBM K "list" rAppend (tVar 5) (tCons (tCB (rMin23) (tCons (tVar 6) (tCons (tCall f__law_one [] E0 (tCons (tVar 0) (tCons (tLst (tCons (tC (.int 1)) (tCons (tC (.int 2)) (tCons (tC (.int 1)) (tCons (tC (.int 3)) (tCons (tC (.int 1)) (tCons (tC (.int 2)) (tCons (tOp rAdd3 (tC (.int 1)) (tCall f__law_take [] E0 (tCons (tVar 0) (tCons (tVar 3) tNil)))) tNil)))))))) tNil))) tNil))) tNil)))
    (tAug 6 (tOp (rIx K) (tVar 5) (tUn (rU fun i => .int (-i)) (tC (.int 1)))) (ipI fun i j => i - j))) tNext))
    (tRet (tTupF (tCons (tCB (rMin23) (tCons (tVar 4) (tCons (tVar 1) tNil))) (tCons (tCB (rTupOf) (tCons (tVar 5) tNil)) tNil)))))))
def n__law_rooms_within : List Str := ["_law_house_here", "_law_floor"]
def p__law_rooms_within : List Str := ["_law_house_here"]
def t__law_rooms_within (K : PySem.W.Frag) : TS :=
    (tRet (tLc (iRng1 (tCons (tCB (rLen K) (tCons (tOp (rIx K) (tVar 0) (tC (.int 1))) tNil)) tNil)) (gName 1) tYes (tCB (rSum2) (tCons (tSl (rSl2 K) (tOp (rIx K) (tVar 0) (tC (.int 1))) tNoPart (tPart (tOp rAdd3 (tVar 1) (tC (.int 1))))) tNil)) [1]))
def n__law_within : List Str := ["_law_house_here", "_law_state_here", "_law_floor", "_law_thing"]
def p__law_within : List Str := ["_law_house_here", "_law_state_here", "_law_floor"]
def t__law_within (K : PySem.W.Frag) : TS :=
    (tRet (tLc (iRng1 (tCons (tOp (rIx K) (tVar 0) (tC (.int 0))) tNil)) (gName 3) (tTest (tOp (rI0 fun i j => .bl (decide (i ≤ j))) (tOp (rIx K) (tVar 1) (tVar 3)) (tVar 2))) (tVar 3) [3]))
def n__law_sizes : List Str := ["_law_house_here", "_law_state_here", "_law_floor"]
def p__law_sizes : List Str := ["_law_house_here", "_law_state_here"]
def t__law_sizes (K : PySem.W.Frag) (f__law_within : Sp) : TS :=
    (tRet (tCB (rTupOf) (tCons (tLc (iRng1 (tCons (tCB (rLen K) (tCons (tOp (rIx K) (tVar 0) (tC (.int 1))) tNil)) tNil)) (gName 2) tYes (tCB (rLen K) (tCons (tCall f__law_within [] E0 (tCons (tVar 0) (tCons (tVar 1) (tCons (tVar 2) tNil)))) tNil)) [2]) tNil)))
def n__law_state : List Str := ["_law_bag_here", "_law_house_here", "_law_many", "_law_rooms", "_law_left", "_law_way", "_law_state_here", "_law_thing", "_law_open_floors", "_law_floor", "_law_free"]
def p__law_state : List Str := ["_law_bag_here", "_law_house_here"]
def t__law_state (K : PySem.W.Frag) (f__law_mixed f__law_one f__law_take : Sp) : TS :=
    (tSeq (tAsg (tVar 1) (gTup K 2 (gCons (gName 2) (gCons (gName 3) gNil))))
    (tSeq (tPar3 4 5 6 (tCons (tCB (rLstOf K) (tCons (tVar 3) tNil)) (tCons (tCall f__law_take [] E0 (tCons (tVar 0) (tCons (tC (.int 4)) tNil))) (tCons (tOp rMul3 (tLst (tCons (tCB (rLen K) (tCons (tVar 3) tNil)) tNil)) (tVar 2)) tNil))))
    (tSeq (tFor (iSeq K (tCall f__law_mixed [] E0 (tCons (tVar 0) (tCons (tLstRg (tRg1 (tVar 2))) tNil)))) (gName 7) (tSeq (tAsg (tLc (iEnu1 (tCons (tVar 4) tNil)) (gTup K 2 (gCons (gName 9) (gCons (gName 10) gNil))) (tTest (tOp (rI0 fun i j => .bl (decide (j < i))) (tVar 10) (tC (.int 0)))) (tVar 9) [9, 10]) (gName 8))
    (tSeq (tIfS (tAnd (tTest (tOp (rEqD K) (tVar 5) (tC (.int 1)))) (tTest (tOp (rNeD K) (tVar 8) (tLst tNil)))) (tAsg (tOp (rIx K) (tVar 8) (tC (.int 0))) (gSub (tVar 6) (tVar 7) rSetL)) (tIfS (tAnd (tTest (tOp (rI0 fun i j => .bl (decide (j < i))) (tVar 5) (tC (.int 1)))) (tTest (tOp (rNeD K) (tVar 8) (tLst tNil)))) (tAsg (tCall f__law_one [] E0 (tCons (tVar 0) (tCons (tOp rAdd3 (tVar 8) (tOp rMul3 (tLst (tCons (tCB (rLen K) (tCons (tVar 3) tNil)) tNil)) (tOp (rI0 fun i j => .int (i - j)) (tVar 5) (tC (.int 2))))) tNil))) (gSub (tVar 6) (tVar 7) rSetL)) tNext))
    (tIfS (tTest (tOp (rI0 fun i j => .bl (decide (i < j))) (tOp (rIx K) (tVar 6) (tVar 7)) (tCB (rLen K) (tCons (tVar 3) tNil)))) (tAugS (tVar 4) (tOp (rIx K) (tVar 6) (tVar 7)) (tC (.int 1)) rGetL (ipI fun i j => i - j) rSetL) tNext))))
    (tRet (tCB (rTupOf) (tCons (tVar 6) tNil))))))
def n__law_full_state : List Str := ["_law_bag_here", "_law_house_here", "_law_places", "_law_floor", "_law_rooms"]
def p__law_full_state : List Str := ["_law_bag_here", "_law_house_here"]
def t__law_full_state (K : PySem.W.Frag) (f__law_mixed f__law_flat : Sp) : TS :=
    (tSeq (tAsg (tCall f__law_flat [] E0 (tCons (tLc (iEnu1 (tCons (tOp (rIx K) (tVar 1) (tC (.int 1))) tNil)) (gTup K 2 (gCons (gName 3) (gCons (gName 4) gNil))) tYes (tOp rMul3 (tLst (tCons (tVar 3) tNil)) (tVar 4)) [3, 4]) tNil)) (gName 2))
    (tRet (tCB (rTupOf) (tCons (tCall f__law_mixed [] E0 (tCons (tVar 0) (tCons (tOp rAdd3 (tVar 2) (tOp rMul3 (tLst (tCons (tCB (rLen K) (tCons (tOp (rIx K) (tVar 1) (tC (.int 1))) tNil)) tNil)) (tOp (rI0 fun i j => .int (i - j)) (tOp (rIx K) (tVar 1) (tC (.int 0))) (tCB (rLen K) (tCons (tVar 2) tNil))))) tNil))) tNil))))
def n__law_start : List Str := ["_law_bag_here", "_law_house_here", "_law_menu"]
def p__law_start : List Str := ["_law_bag_here", "_law_house_here"]
def t__law_start (K : PySem.W.Frag) (f__law_one f__law_state : Sp) : TS :=
    (tSeq (tAsg (tLst (tCons (tOp rMul3 (tTupF (tCons (tCB (rLen K) (tCons (tOp (rIx K) (tVar 1) (tC (.int 1))) tNil)) tNil)) (tOp (rIx K) (tVar 1) (tC (.int 0)))) (tCons (tCall f__law_state [] E0 (tCons (tVar 0) (tCons (tVar 1) tNil))) (tCons (tCall f__law_state [] E0 (tCons (tVar 0) (tCons (tVar 1) tNil))) tNil)))) (gName 2))
    (tRet (tCall f__law_one [] E0 (tCons (tVar 0) (tCons (tOp rAdd3 (tVar 2) (tOp rMul3 (tLst (tCons (tC .non) tNil)) (tCB (rInt) (tCons (tOp (rI0 fun i j => .bl (decide (j ≤ i))) (tOp (rIx K) (tVar 1) (tC (.int 0))) (tCB (rSum2) (tCons (tOp (rIx K) (tVar 1) (tC (.int 1))) tNil))) tNil)))) tNil)))))
def n__law_done : List Str := ["_law_house_here", "_law_state_here", "_law_move", "_law_word", "_law_thing", "_law_downs", "_law_floors", "_law_now", "_law_at", "_law_down", "_law_last"]
def p__law_done : List Str := ["_law_house_here", "_law_state_here", "_law_move"]
def t__law_done (K : PySem.W.Frag) : TS :=
    (tSeq (tAsg (tVar 2) (gTup K 3 (gCons (gName 3) (gCons (gName 4) (gCons (gName 5) gNil)))))
    (tSeq (tPar 6 7 (tCons (tCB (rLen K) (tCons (tOp (rIx K) (tVar 0) (tC (.int 1))) tNil)) (tCons (tCB (rLstOf K) (tCons (tVar 1) tNil)) tNil)))
    (tSeq (tIfS (tTest (tOp (rEqD K) (tVar 3) (tC (.str "strike")))) (tSeq (tAsg (tVar 6) (gSub (tVar 7) (tVar 4) rSetL))
    (tRet (tIf (tTest (tOp (rEqD K) (tVar 5) (tTupF tNil))) (tCB (rTupOf) (tCons (tVar 7) tNil)) (tC .non)))) tNext)
    (tSeq (tAsg (tC (.int 0)) (gSub (tVar 7) (tVar 4) rSetL))
    (tSeq (tFor (iEnu1 (tCons (tVar 5) tNil)) (gTup K 2 (gCons (gName 8) (gCons (gName 9) gNil))) (tSeq (tIfS (tOr (tTest (tOp (rI0 fun i j => .bl (decide (j ≤ i))) (tVar 8) (tVar 6))) (tOr (tTest (tOp (rI0 fun i j => .bl (decide (i ≤ j))) (tBM K "list" (rCntI K) (tVar 7) (tCons (tVar 8) tNil)) (tOp (rIx K) (tOp (rIx K) (tVar 0) (tC (.int 1))) (tVar 8)))) (tOr (tTest (tOp (rNeD K) (tOp (rIx K) (tVar 7) (tVar 9)) (tVar 8))) (tAnd (tTest (tOp (rEqD K) (tVar 8) (tC (.int 0)))) (tTest (tOp (rEqD K) (tVar 9) (tVar 4))))))) (tRet (tC .non)) tNext)
    (tAsg (tOp rAdd3 (tVar 8) (tC (.int 1))) (gSub (tVar 7) (tVar 9) rSetL))))
    (tSeq (tAsg (tCB (rLen K) (tCons (tVar 5) tNil)) (gName 10))
    (tRet (tIf (tOr (tTest (tOp (rI0 fun i j => .bl (decide (j ≤ i))) (tVar 10) (tVar 6))) (tTest (tOp (rI0 fun i j => .bl (decide (i ≤ j))) (tBM K "list" (rCntI K) (tVar 7) (tCons (tVar 10) tNil)) (tOp (rIx K) (tOp (rIx K) (tVar 0) (tC (.int 1))) (tVar 10))))) (tCB (rTupOf) (tCons (tVar 7) tNil)) (tC .non)))))))))
def n__law_drawn_move : List Str := ["_law_bag_here", "_law_house_here", "_law_state_here", "_law_thing", "_law_way", "_law_downs", "_law_now", "_law_at", "_law_there", "_law_down", "_law_one_here"]
def p__law_drawn_move : List Str := ["_law_bag_here", "_law_house_here", "_law_state_here", "_law_thing", "_law_way"]
def t__law_drawn_move (K : PySem.W.Frag) (f__law_one : Sp) : TS :=
    (tSeq (tAsg (tTupF (tCons (tTupF tNil) (tCons (tCB (rLstOf K) (tCons (tVar 2) tNil)) tNil))) (gTup K 2 (gCons (gName 5) (gCons (gName 6) gNil))))
    (tSeq (tAsg (tC (.int 0)) (gSub (tVar 6) (tVar 3) rSetL))
    (tSeq (tWhile (tAnd (tTest (tOp (rI0 fun i j => .bl (decide (i < j))) (tCB (rLen K) (tCons (tVar 5) tNil)) (tCB (rLen K) (tCons (tOp (rIx K) (tVar 1) (tC (.int 1))) tNil)))) (tTest (tOp (rI0 fun i j => .bl (decide (j < i))) (tBM K "list" (rCntI K) (tVar 6) (tCons (tCB (rLen K) (tCons (tVar 5) tNil)) tNil)) (tOp (rIx K) (tOp (rIx K) (tVar 1) (tC (.int 1))) (tCB (rLen K) (tCons (tVar 5) tNil)))))) (tSeq (tAsg (tCB (rLen K) (tCons (tVar 5) tNil)) (gName 7))
    (tSeq (tAsg (tLc (iRng1 (tCons (tOp (rIx K) (tVar 1) (tC (.int 0))) tNil)) (gName 10) (tAnd (tTest (tOp (rEqD K) (tOp (rIx K) (tVar 6) (tVar 10)) (tVar 7))) (tOr (tTest (tOp (rI0 fun i j => .bl (decide (j < i))) (tVar 7) (tC (.int 0)))) (tTest (tOp (rNeD K) (tVar 10) (tVar 3))))) (tVar 10) [10]) (gName 8))
    (tSeq (tAsg (tIf (tTest (tOp (rEqD K) (tVar 4) (tC (.int 1)))) (tOp (rIx K) (tVar 8) (tUn (rU fun i => .int (-i)) (tC (.int 1)))) (tIf (tAnd (tTest (tOp (rEqD K) (tVar 4) (tC (.int 2)))) (tTest (tOp (rI0 fun i j => .bl (decide (j < i))) (tVar 7) (tC (.int 0))))) (tOp (rIx K) (tVar 5) (tUn (rU fun i => .int (-i)) (tC (.int 1)))) (tCall f__law_one [] E0 (tCons (tVar 0) (tCons (tVar 8) tNil))))) (gName 9))
    (tAsg (tTupF (tCons (tOp rAdd3 (tVar 5) (tTupF (tCons (tVar 9) tNil))) (tCons (tOp rAdd3 (tVar 7) (tC (.int 1))) tNil))) (gTup K 2 (gCons (gName 5) (gCons (gSub (tVar 6) (tVar 9) rSetL) gNil))))))))
    (tRet (tTupF (tCons (tC (.str "ask")) (tCons (tVar 3) (tCons (tVar 5) tNil))))))))
def n__law_run : List Str := ["_law_bag_here", "_law_house_here", "_law_state_here", "_law_many", "_law_strikes", "_law_run_here", "_law_log", "_law_states", "_law_way", "_law_favoured", "_law_turn", "_law_thing", "_law_move"]
def p__law_run : List Str := ["_law_bag_here", "_law_house_here", "_law_state_here", "_law_many", "_law_strikes"]
def t__law_run (K : PySem.W.Frag) (f__law_done f__law_take f__law_drawn_move f__law_one f__law_mixed : Sp) : TS :=
    (tSeq (tAsg (tTupF (tCons (tLst tNil) (tCons (tLst tNil) (tCons (tLst (tCons (tVar 2) tNil)) (tCons (tCall f__law_one [] E0 (tCons (tVar 0) (tCons (tLst (tCons (tC (.int 0)) (tCons (tC (.int 0)) (tCons (tC (.int 1)) (tCons (tC (.int 2)) tNil))))) tNil))) tNil))))) (gTup K 4 (gCons (gName 5) (gCons (gName 6) (gCons (gName 7) (gCons (gName 8) gNil))))))
    (tSeq (tAsg (tSl (rSl2 K) (tCall f__law_mixed [] E0 (tCons (tVar 0) (tCons (tLstRg (tRg1 (tOp (rIx K) (tVar 1) (tC (.int 0))))) tNil))) tNoPart (tPart (tOp rAdd3 (tC (.int 1)) (tCall f__law_take [] E0 (tCons (tVar 0) (tCons (tCB (rMax23) (tCons (tC (.int 1)) (tCons (tOp (rIx K) (tVar 1) (tC (.int 0))) tNil))) tNil)))))) (gName 9))
    (tSeq (tFor (iRng1 (tCons (tIf (tTest (tOp (rI0 fun i j => .bl (decide (j < i))) (tOp (rIx K) (tVar 1) (tC (.int 0))) (tC (.int 0)))) (tVar 3) (tC (.int 0))) tNil)) (gName 10) (tSeq (tAsg (tIf (tTest (tOp (rI0 fun i j => .bl (decide (j < i))) (tCall f__law_take [] E0 (tCons (tVar 0) (tCons (tC (.int 3)) tNil))) (tC (.int 0)))) (tCall f__law_one [] E0 (tCons (tVar 0) (tCons (tVar 9) tNil))) (tCall f__law_take [] E0 (tCons (tVar 0) (tCons (tOp (rIx K) (tVar 1) (tC (.int 0))) tNil)))) (gName 11))
    (tSeq (tAsg (tTupF (tCons (tC (.str "strike")) (tCons (tVar 11) (tCons (tTupF tNil) tNil)))) (gName 12))
    (tSeq (tIfS (tOr (tTest (tOp (rEqD K) (tVar 4) (tC (.int 0)))) (tTest (tOp (rI0 fun i j => .bl (decide (j < i))) (tCall f__law_take [] E0 (tCons (tVar 0) (tCons (tVar 4) tNil))) (tC (.int 0))))) (tAsg (tCall f__law_drawn_move [] E0 (tCons (tVar 0) (tCons (tVar 1) (tCons (tOp (rIx K) (tVar 7) (tUn (rU fun i => .int (-i)) (tC (.int 1)))) (tCons (tVar 11) (tCons (tVar 8) tNil)))))) (gName 12)) tNext)
    (tSeq (tDrop (tBM K "list" rAppend (tVar 5) (tCons (tVar 12) tNil)))
    (tSeq (tDrop (tBM K "list" rAppend (tVar 6) (tCons (tTupF (tCons (tOp (rIx K) (tVar 12) (tC (.int 0))) (tCons (tVar 11) (tCons (tOp (rIx K) (tOp (rIx K) (tVar 7) (tUn (rU fun i => .int (-i)) (tC (.int 1)))) (tVar 11)) tNil)))) tNil)))
    (tDrop (tBM K "list" rAppend (tVar 7) (tCons (tCall f__law_done [] E0 (tCons (tVar 1) (tCons (tOp (rIx K) (tVar 7) (tUn (rU fun i => .int (-i)) (tC (.int 1)))) (tCons (tVar 12) tNil)))) tNil)))))))))
    (tRet (tTupF (tCons (tCB (rTupOf) (tCons (tVar 5) tNil)) (tCons (tCB (rTupOf) (tCons (tVar 6) tNil)) (tCons (tVar 7) tNil))))))))
def n__law_story : List Str := ["_law_bag_here", "_law_house_here", "_law_start_here", "_law_many", "_law_strikes"]
def p__law_story : List Str := ["_law_bag_here", "_law_house_here", "_law_start_here", "_law_many", "_law_strikes"]
def t__law_story (K : PySem.W.Frag) (f__law_full_state f__law_run : Sp) : TS :=
    (tRet (tCall f__law_run [] E0 (tCons (tVar 0) (tCons (tVar 1) (tCons (tIf (tTest (tOp (rIsN) (tVar 2) (tC .non))) (tCall f__law_full_state [] E0 (tCons (tVar 0) (tCons (tVar 1) tNil))) (tVar 2)) (tCons (tVar 3) (tCons (tVar 4) tNil)))))))
def n__law_all_states : List Str := ["_law_house_here", "_law_found", "_law_out", "_law_thing", "_law_more", "_law_state_here", "_law_floor", "_law_rooms"]
def p__law_all_states : List Str := ["_law_house_here"]
def t__law_all_states (K : PySem.W.Frag) : TS :=
    (tSeq (tPar 1 2 (tCons (tLst (tCons (tTupF tNil) tNil)) (tCons (tCB (rLen K) (tCons (tOp (rIx K) (tVar 0) (tC (.int 1))) tNil)) tNil)))
    (tSeq (tFor (iRng1 (tCons (tOp (rIx K) (tVar 0) (tC (.int 0))) tNil)) (gName 3) (tSeq (tAsg (tLst tNil) (gName 4))
    (tSeq (tFor (iSeq K (tVar 1)) (gName 5) (tSeq (tDrop (tBM K "list" rExtend (tVar 4) (tCons (tLc (iEnu1 (tCons (tOp (rIx K) (tVar 0) (tC (.int 1))) tNil)) (gTup K 2 (gCons (gName 6) (gCons (gName 7) gNil))) (tTest (tOp (rI0 fun i j => .bl (decide (i < j))) (tTM rTCnt (tVar 5) (tCons (tVar 6) tNil)) (tVar 7))) (tOp rAdd3 (tVar 5) (tTupF (tCons (tVar 6) tNil))) [6, 7]) tNil)))
    (tDrop (tBM K "list" rAppend (tVar 4) (tCons (tOp rAdd3 (tVar 5) (tTupF (tCons (tVar 2) tNil))) tNil)))))
    (tAsg (tVar 4) (gName 1)))))
    (tRet (tVar 1))))
def n__law_first_known : List Str := ["_law_house_here", "_law_start_here", "_law_many", "_law_words", "_law_rooms", "_law_order", "_law_size", "_law_count"]
def p__law_first_known : List Str := ["_law_house_here", "_law_start_here"]
def n__law_tightened : List Str := ["_law_rows", "_law_sizes_here", "_law_floors", "_law_many", "_law_words", "_law_one_here", "_law_row", "_law_size", "_law_word", "_law_ahead", "_law_count", "_law_floor", "_law_more", "_law_other"]
def p__law_tightened : List Str := ["_law_rows", "_law_sizes_here"]
def t__law_tightened (K : PySem.W.Frag) : TS :=
    (tSeq (tPar3 2 3 4 (tCons (tCB (rLen K) (tCons (tVar 0) tNil)) (tCons (tOp (rI0 fun i j => .int (i - j)) (tCB (rLen K) (tCons (tOp (rIx K) (tVar 0) (tC (.int 0))) tNil)) (tC (.int 1))) (tCons (tLst tNil) tNil))))
    (tSeq (tIfS (tTest (tOp (rNeD K) (tLc (iZp (tCons (tOp rAdd3 (tTupF (tCons (tC (.int 0)) tNil)) (tVar 1)) (tCons (tVar 1) tNil))) (gTup K 2 (gCons (gName 5) (gCons (gName 13) gNil))) (tTest (tOp (rI0 fun i j => .bl (decide (i < j))) (tVar 13) (tVar 5))) (tC (.int 1)) [5, 13]) (tLst tNil))) (tRet (tC .non)) tNext)
    (tSeq (tFor (iZp (tCons (tVar 0) (tCons (tVar 1) tNil))) (gTup K 2 (gCons (gName 6) (gCons (gName 7) gNil))) (tSeq (tPar 8 9 (tCons (tLst tNil) (tCons (tC (.int 0)) tNil)))
    (tSeq (tFor (iEnu1 (tCons (tVar 6) tNil)) (gTup K 2 (gCons (gName 10) (gCons (gName 5) gNil))) (tSeq (tAsg (tCB (rMax23) (tCons (tVar 9) (tCons (tVar 5) (tCons (tOp rAdd3 (tOp (rI0 fun i j => .int (i - j)) (tVar 7) (tVar 3)) (tVar 10)) tNil)))) (gName 9))
    (tDrop (tBM K "list" rAppend (tVar 8) (tCons (tVar 9) tNil)))))
    (tSeq (tFor (iRng3 (tCons (tOp (rI0 fun i j => .int (i - j)) (tVar 3) (tC (.int 1))) (tCons (tUn (rU fun i => .int (-i)) (tC (.int 1))) (tCons (tUn (rU fun i => .int (-i)) (tC (.int 1))) tNil)))) (gName 10) (tAsg (tCB (rMax23) (tCons (tOp (rIx K) (tVar 8) (tVar 10)) (tCons (tOp (rI0 fun i j => .int (i - j)) (tOp (rIx K) (tVar 8) (tOp rAdd3 (tVar 10) (tC (.int 1)))) (tC (.int 1))) tNil))) (gSub (tVar 8) (tVar 10) rSetL)))
    (tDrop (tBM K "list" rAppend (tVar 4) (tCons (tVar 8) tNil)))))))
    (tSeq (tFor (iRng2 (tCons (tC (.int 1)) (tCons (tVar 2) tNil))) (gName 11) (tAsg (tLc (iZp (tCons (tOp (rIx K) (tVar 4) (tVar 11)) (tCons (tOp (rIx K) (tVar 4) (tOp (rI0 fun i j => .int (i - j)) (tVar 11) (tC (.int 1)))) tNil))) (gTup K 2 (gCons (gName 5) (gCons (gName 13) gNil))) tYes (tCB (rMax23) (tCons (tVar 5) (tCons (tVar 13) tNil))) [5, 13]) (gSub (tVar 4) (tVar 11) rSetL)))
    (tSeq (tFor (iRng3 (tCons (tOp (rI0 fun i j => .int (i - j)) (tVar 2) (tC (.int 2))) (tCons (tUn (rU fun i => .int (-i)) (tC (.int 1))) (tCons (tUn (rU fun i => .int (-i)) (tC (.int 1))) tNil)))) (gName 11) (tSeq (tAsg (tOp (rI0 fun i j => .int (i - j)) (tOp (rIx K) (tVar 1) (tOp rAdd3 (tVar 11) (tC (.int 1)))) (tOp (rIx K) (tVar 1) (tVar 11))) (gName 12))
    (tAsg (tLc (iZp (tCons (tOp (rIx K) (tVar 4) (tVar 11)) (tCons (tOp (rIx K) (tVar 4) (tOp rAdd3 (tVar 11) (tC (.int 1)))) tNil))) (gTup K 2 (gCons (gName 5) (gCons (gName 13) gNil))) tYes (tCB (rMax23) (tCons (tVar 5) (tCons (tOp (rI0 fun i j => .int (i - j)) (tVar 13) (tVar 12)) tNil))) [5, 13]) (gSub (tVar 4) (tVar 11) rSetL))))
    (tSeq (tFor (iZp (tCons (tVar 4) (tCons (tVar 1) tNil))) (gTup K 2 (gCons (gName 8) (gCons (gName 7) gNil))) (tIfS (tTest (tOp (rNeD K) (tLc (iEnu1 (tCons (tVar 8) tNil)) (gTup K 2 (gCons (gName 10) (gCons (gName 5) gNil))) (tTest (tOp (rI0 fun i j => .bl (decide (j < i))) (tVar 5) (tCB (rMin23) (tCons (tVar 10) (tCons (tVar 7) tNil))))) (tC (.int 1)) [10, 5]) (tLst tNil))) (tRet (tC .non)) tNext))
    (tRet (tCB (rTupOf) (tCons (tLc (iSeq K (tVar 4)) (gName 8) tYes (tCB (rTupOf) (tCons (tVar 8) tNil)) [8]) tNil)))))))))
def n__law_known_sizes : List Str := ["_law_known_here", "_law_word"]
def p__law_known_sizes : List Str := ["_law_known_here"]
def t__law_known_sizes (K : PySem.W.Frag) : TS :=
    (tRet (tCB (rTupOf) (tCons (tLc (iSeq K (tOp (rIx K) (tVar 0) (tC (.int 1)))) (gName 1) tYes (tOp (rIx K) (tVar 1) (tUn (rU fun i => .int (-i)) (tC (.int 1)))) [1]) tNil)))
def n__law_led : List Str := ["_law_house_here", "_law_known_here", "_law_entry", "_law_order", "_law_words", "_law_word", "_law_thing", "_law_found", "_law_place", "_law_sizes_here", "_law_rows", "_law_floor", "_law_row", "_law_less", "_law_later", "_law_tight", "_law_rest", "_law_made", "_law_is_less", "_law_one_here"]
def p__law_led : List Str := ["_law_house_here", "_law_known_here", "_law_entry"]
def t__law_led (K : PySem.W.Frag) (f__law_tightened f__law_known_sizes : Sp) : TS :=
    (tSeq (tAsg (tVar 1) (gTup K 2 (gCons (gName 3) (gCons (gName 4) gNil))))
    (tSeq (tAsg (tVar 2) (gTup K 3 (gCons (gName 5) (gCons (gName 6) (gCons (gName 7) gNil)))))
    (tSeq (tPar3 8 9 10 (tCons (tTM rTIdx (tVar 3) (tCons (tVar 6) tNil)) (tCons (tCB (rLstOf K) (tCons (tCall f__law_known_sizes [] E0 (tCons (tVar 1) tNil)) tNil)) (tCons (tLst tNil) tNil))))
    (tSeq (tFor (iEnu1 (tCons (tVar 4) tNil)) (gTup K 2 (gCons (gName 11) (gCons (gName 12) gNil))) (tSeq (tAsg (tCB (rInt) (tCons (tOp (rI0 fun i j => .bl (decide (j ≤ i))) (tVar 11) (tVar 7)) tNil)) (gName 13))
    (tSeq (tAsg (tLc (iSeq K (tSl (rSl2 K) (tVar 12) (tPart (tOp rAdd3 (tVar 8) (tC (.int 1)))) tNoPart)) (gName 19) tYes (tOp (rI0 fun i j => .int (i - j)) (tVar 19) (tVar 13)) [19]) (gName 14))
    (tSeq (tDrop (tBM K "list" rAppend (tVar 10) (tCons (tCB (rTupOf) (tCons (tOp rAdd3 (tOp rAdd3 (tCB (rLstOf K) (tCons (tSl (rSl2 K) (tVar 12) tNoPart (tPart (tVar 8))) tNil)) (tLst (tCons (tCB (rMax23) (tCons (tOp (rIx K) (tVar 12) (tVar 8)) (tCons (tOp (rIx K) (tVar 14) (tC (.int 0))) tNil))) tNil))) (tSl (rSl2 K) (tVar 14) (tPart (tC (.int 1))) tNoPart)) tNil)) tNil)))
    (tAugS (tVar 9) (tVar 11) (tVar 13) rGetL (ipI fun i j => i - j) rSetL)))))
    (tSeq (tAsg (tCall f__law_tightened [] E0 (tCons (tCB (rTupOf) (tCons (tVar 10) tNil)) (tCons (tCB (rTupOf) (tCons (tVar 9) tNil)) tNil))) (gName 15))
    (tSeq (tIfS (tTest (tOp (rIsN) (tVar 15) (tC .non))) (tRet (tC .non)) tNext)
    (tSeq (tAsg (tOp rAdd3 (tSl (rSl2 K) (tVar 3) tNoPart (tPart (tVar 8))) (tSl (rSl2 K) (tVar 3) (tPart (tOp rAdd3 (tVar 8) (tC (.int 1)))) tNoPart)) (gName 16))
    (tSeq (tIfS (tTest (tOp (rEqD K) (tVar 5) (tC (.str "strike")))) (tRet (tTupF (tCons (tOp rAdd3 (tVar 16) (tTupF (tCons (tVar 6) tNil))) (tCons (tCB (rTupOf) (tCons (tLc (iSeq K (tVar 15)) (gName 12) tYes (tOp rAdd3 (tVar 12) (tSl (rSl2 K) (tVar 12) (tPart (tUn (rU fun i => .int (-i)) (tC (.int 1)))) tNoPart)) [12]) tNil)) tNil)))) tNext)
    (tSeq (tAsg (tLst tNil) (gName 17))
    (tSeq (tFor (iEnu1 (tCons (tVar 15) tNil)) (gTup K 2 (gCons (gName 11) (gCons (gName 12) gNil))) (tSeq (tAsg (tAndV (tOp (rI0 fun i j => .bl (decide (i < j))) (tVar 11) (tVar 7)) (tOp (rEqD K) (tOp (rIx K) (tVar 9) (tVar 11)) (tCB (rSum2) (tCons (tSl (rSl2 K) (tOp (rIx K) (tVar 0) (tC (.int 1))) tNoPart (tPart (tOp rAdd3 (tVar 11) (tC (.int 1))))) tNil)))) (gName 18))
    (tDrop (tBM K "list" rAppend (tVar 17) (tCons (tOp rAdd3 (tTupF (tCons (tC (.int 0)) tNil)) (tCB (rTupOf) (tCons (tLc (iSeq K (tVar 12)) (gName 19) tYes (tOp rAdd3 (tCB (rMax23) (tCons (tC (.int 0)) (tCons (tOp (rI0 fun i j => .int (i - j)) (tVar 19) (tCB (rInt) (tCons (tVar 18) tNil))) tNil))) (tC (.int 1))) [19]) tNil))) tNil)))))
    (tRet (tTupF (tCons (tOp rAdd3 (tTupF (tCons (tVar 6) tNil)) (tVar 16)) (tCons (tCB (rTupOf) (tCons (tVar 17) tNil)) tNil))))))))))))))
def n__law_led_by : List Str := ["_law_house_here", "_law_known_here", "_law_log", "_law_index", "_law_entry", "_law_later"]
def p__law_led_by : List Str := ["_law_house_here", "_law_known_here", "_law_log"]
def t__law_led_by (K : PySem.W.Frag) (f__law_led : Sp) : TS :=
    (tSeq (tFor (iEnu1 (tCons (tVar 2) tNil)) (gTup K 2 (gCons (gName 3) (gCons (gName 4) gNil))) (tSeq (tAsg (tCall f__law_led [] E0 (tCons (tVar 0) (tCons (tVar 1) (tCons (tVar 4) tNil)))) (gName 5))
    (tSeq (tIfS (tTest (tOp (rIsN) (tVar 5) (tC .non))) (tRet (tTupF (tCons (tVar 1) (tCons (tVar 3) tNil)))) tNext)
    (tAsg (tVar 5) (gName 1)))))
    (tRet (tTupF (tCons (tVar 1) (tCons (tC .non) tNil)))))
def n__law_fits : List Str := ["_law_house_here", "_law_known_here", "_law_state_here", "_law_floor", "_law_word", "_law_within_here", "_law_count", "_law_thing"]
def p__law_fits : List Str := ["_law_house_here", "_law_known_here", "_law_state_here"]
def t__law_fits (K : PySem.W.Frag) (f__law_sizes f__law_known_sizes : Sp) : TS :=
    (tSeq (tIfS (tTest (tOp (rNeD K) (tCall f__law_sizes [] E0 (tCons (tVar 0) (tCons (tVar 2) tNil))) (tCall f__law_known_sizes [] E0 (tCons (tVar 1) tNil)))) (tRet (tC (.bl false))) tNext)
    (tSeq (tFor (iEnu1 (tCons (tOp (rIx K) (tVar 1) (tC (.int 1))) tNil)) (gTup K 2 (gCons (gName 3) (gCons (gName 4) gNil))) (tSeq (tAsg (tC (.int 0)) (gName 5))
    (tFor (iEnu1 (tCons (tOp (rIx K) (tVar 1) (tC (.int 0))) tNil)) (gTup K 2 (gCons (gName 6) (gCons (gName 7) gNil))) (tSeq (tAug 5 (tCB (rInt) (tCons (tOp (rI0 fun i j => .bl (decide (i ≤ j))) (tOp (rIx K) (tVar 2) (tVar 7)) (tVar 3)) tNil)) (ipI fun i j => i + j))
    (tIfS (tTest (tOp (rI0 fun i j => .bl (decide (i < j))) (tVar 5) (tOp (rIx K) (tVar 4) (tOp rAdd3 (tVar 6) (tC (.int 1)))))) (tRet (tC (.bl false))) tNext)))))
    (tRet (tC (.bl true)))))
def n__law_tight_known : List Str := ["_law_bag_here", "_law_house_here", "_law_order", "_law_sizes_here", "_law_size", "_law_rooms", "_law_turn", "_law_rows", "_law_drawn", "_law_words", "_law_count", "_law_way"]
def p__law_tight_known : List Str := ["_law_bag_here", "_law_house_here"]
def t__law_tight_known (K : PySem.W.Frag) (f__law_tightened f__law_take f__law_one f__law_mixed : Sp) : TS :=
    (tSeq (tAsg (tTupF (tCons (tCB (rTupOf) (tCons (tCall f__law_mixed [] E0 (tCons (tVar 0) (tCons (tLstRg (tRg1 (tOp (rIx K) (tVar 1) (tC (.int 0))))) tNil))) tNil)) (tCons (tLst tNil) (tCons (tC (.int 0)) tNil)))) (gTup K 3 (gCons (gName 2) (gCons (gName 3) (gCons (gName 4) gNil)))))
    (tSeq (tFor (iSeq K (tOp (rIx K) (tVar 1) (tC (.int 1)))) (gName 5) (tSeq (tAsg (tCB (rMin23) (tCons (tOp (rIx K) (tVar 1) (tC (.int 0))) (tCons (tOp rAdd3 (tVar 4) (tCall f__law_one [] E0 (tCons (tVar 0) (tCons (tLst (tCons (tVar 5) (tCons (tVar 5) (tCons (tCall f__law_take [] E0 (tCons (tVar 0) (tCons (tOp rAdd3 (tVar 5) (tC (.int 1))) tNil))) tNil)))) tNil)))) tNil))) (gName 4))
    (tDrop (tBM K "list" rAppend (tVar 3) (tCons (tVar 4) tNil)))))
    (tSeq (tFor (iRng1 (tCons (tC (.int 3)) tNil)) (gName 6) (tSeq (tAsg (tLst tNil) (gName 7))
    (tSeq (tFor (iSeq K (tVar 3)) (gName 4) (tSeq (tAsg (tLc (iRng1 (tCons (tOp rAdd3 (tOp (rIx K) (tVar 1) (tC (.int 0))) (tC (.int 1))) tNil)) (gName 10) tYes (tTupF (tCons (tCall f__law_take [] E0 (tCons (tVar 0) (tCons (tC (.int 3)) tNil))) (tCons (tVar 10) tNil))) [10]) (gName 8))
    (tDrop (tBM K "list" rAppend (tVar 7) (tCons (tCB (rTupOf) (tCons (tLc (iSeq K (tVar 8)) (gTup K 2 (gCons (gName 11) (gCons (gName 10) gNil))) tYes (tIf (tTest (tOp (rEqD K) (tVar 11) (tC (.int 0)))) (tCB (rMin23) (tCons (tVar 10) (tCons (tVar 4) (tCons (tCall f__law_take [] E0 (tCons (tVar 0) (tCons (tOp rAdd3 (tVar 10) (tC (.int 1))) tNil))) tNil)))) (tC (.int 0))) [11, 10]) tNil)) tNil)))))
    (tSeq (tAsg (tCall f__law_tightened [] E0 (tCons (tCB (rTupOf) (tCons (tVar 7) tNil)) (tCons (tCB (rTupOf) (tCons (tVar 3) tNil)) tNil))) (gName 9))
    (tIfS (tTest (tOp (rNotN) (tVar 9) (tC .non))) (tRet (tTupF (tCons (tVar 2) (tCons (tVar 9) tNil)))) tNext)))))
    (tRet (tTupF (tCons (tVar 2) (tCons (tCall f__law_tightened [] E0 (tCons (tOp rMul3 (tTupF (tCons (tOp rMul3 (tTupF (tCons (tC (.int 0)) tNil)) (tOp rAdd3 (tOp (rIx K) (tVar 1) (tC (.int 0))) (tC (.int 1)))) tNil)) (tCB (rLen K) (tCons (tVar 3) tNil))) (tCons (tCB (rTupOf) (tCons (tVar 3) tNil)) tNil))) tNil)))))))
def n__law_known : List Str := ["_law_bag_here", "_law_house_here", "_law_many", "_law_strikes", "_law_start_here", "_law_run_here", "_law_log", "_law_states"]
def p__law_known : List Str := ["_law_bag_here", "_law_house_here", "_law_many", "_law_strikes"]
def t__law_known (K : PySem.W.Frag) (f__law_first_known f__law_led_by f__law_take f__law_one f__law_story f__law_start : Sp) : TS :=
    (tSeq (tAsg (tCall f__law_start [] E0 (tCons (tVar 0) (tCons (tVar 1) tNil))) (gName 4))
    (tSeq (tAsg (tCall f__law_story [] E0 (tCons (tVar 0) (tCons (tVar 1) (tCons (tVar 4) (tCons (tCall f__law_one [] E0 (tCons (tVar 0) (tCons (tLst (tCons (tVar 2) (tCons (tCall f__law_take [] E0 (tCons (tVar 0) (tCons (tOp rAdd3 (tVar 2) (tC (.int 1))) tNil))) (tCons (tC (.int 0)) (tCons (tVar 2) tNil))))) tNil))) (tCons (tVar 3) tNil)))))) (gTup K 3 (gCons (gName 5) (gCons (gName 6) (gCons (gName 7) gNil)))))
    (tRet (tTupF (tCons (tVar 4) (tCons (tVar 6) (tCons (tOp (rIx K) (tCall f__law_led_by [] E0 (tCons (tVar 1) (tCons (tCall f__law_first_known [] E0 (tCons (tVar 1) (tCons (tVar 4) tNil))) (tCons (tVar 6) tNil)))) (tC (.int 0))) tNil)))))))
def n__law_cuts : List Str := ["_law_word", "_law_at"]
def p__law_cuts : List Str := ["_law_word"]
def t__law_cuts (K : PySem.W.Frag) : TS :=
    (tRet (tLc (iRng2 (tCons (tC (.int 1)) (tCons (tOp (rI0 fun i j => .int (i - j)) (tCB (rLen K) (tCons (tVar 0) tNil)) (tC (.int 1))) tNil))) (gName 1) (tAnd (tTest (tOp (rI0 fun i j => .bl (decide (j < i))) (tOp (rIx K) (tVar 0) (tVar 1)) (tOp (rIx K) (tVar 0) (tOp (rI0 fun i j => .int (i - j)) (tVar 1) (tC (.int 1)))))) (tTest (tOp (rEqD K) (tOp (rIx K) (tVar 0) (tOp rAdd3 (tVar 1) (tC (.int 1)))) (tOp (rIx K) (tVar 0) (tVar 1))))) (tVar 1) [1]))
def n__law_blocks : List Str := ["_law_known_here", "_law_found", "_law_word", "_law_lots", "_law_last", "_law_cut"]
def p__law_blocks : List Str := ["_law_known_here"]
def t__law_blocks (K : PySem.W.Frag) (f__law_cuts : Sp) : TS :=
    (tSeq (tAsg (tLst tNil) (gName 1))
    (tSeq (tFor (iSeq K (tOp (rIx K) (tVar 0) (tC (.int 1)))) (gName 2) (tSeq (tPar 3 4 (tCons (tLst tNil) (tCons (tC (.int 0)) tNil)))
    (tSeq (tFor (iSeq K (tCall f__law_cuts [] E0 (tCons (tVar 2) tNil))) (gName 5) (tSeq (tDrop (tBM K "list" rAppend (tVar 3) (tCons (tTupF (tCons (tCB (rTupOf) (tCons (tCB (rSortB) (tCons (tSl (rSl2 K) (tOp (rIx K) (tVar 0) (tC (.int 0))) (tPart (tVar 4)) (tPart (tVar 5))) tNil)) tNil)) (tCons (tOp (rIx K) (tVar 2) (tVar 5)) tNil))) tNil)))
    (tAsg (tVar 5) (gName 4))))
    (tDrop (tBM K "list" rAppend (tVar 1) (tCons (tCB (rTupOf) (tCons (tVar 3) tNil)) tNil))))))
    (tRet (tCB (rTupOf) (tCons (tVar 1) tNil)))))
def n__law_parts : List Str := ["_law_known_here", "_law_found", "_law_last", "_law_cut", "_law_word"]
def p__law_parts : List Str := ["_law_known_here"]
def t__law_parts (K : PySem.W.Frag) (f__law_cuts f__law_flat : Sp) : TS :=
    (tSeq (tPar 1 2 (tCons (tLst tNil) (tCons (tC (.int 0)) tNil)))
    (tSeq (tFor (iSeq K (tOp rAdd3 (tCB (rSortSet K) (tCons (tCall f__law_flat [] E0 (tCons (tLc (iSeq K (tOp (rIx K) (tVar 0) (tC (.int 1)))) (gName 4) tYes (tCall f__law_cuts [] E0 (tCons (tVar 4) tNil)) [4]) tNil)) tNil)) (tLst (tCons (tCB (rLen K) (tCons (tOp (rIx K) (tVar 0) (tC (.int 0))) tNil)) tNil)))) (gName 3) (tSeq (tDrop (tBM K "list" rAppend (tVar 1) (tCons (tCB (rLstOf K) (tCons (tSl (rSl2 K) (tOp (rIx K) (tVar 0) (tC (.int 0))) (tPart (tVar 2)) (tPart (tVar 3))) tNil)) tNil)))
    (tAsg (tVar 3) (gName 2))))
    (tRet (tVar 1))))
def n__law_stirred : List Str := ["_law_bag_here", "_law_known_here", "_law_part"]
def p__law_stirred : List Str := ["_law_bag_here", "_law_known_here"]
def t__law_stirred (K : PySem.W.Frag) (f__law_parts f__law_mixed f__law_flat : Sp) : TS :=
    (tRet (tTupF (tCons (tCB (rTupOf) (tCons (tCall f__law_flat [] E0 (tCons (tLc (iSeq K (tCall f__law_parts [] E0 (tCons (tVar 1) tNil))) (gName 2) tYes (tCall f__law_mixed [] E0 (tCons (tVar 0) (tCons (tVar 2) tNil))) [2]) tNil)) tNil)) (tCons (tOp (rIx K) (tVar 1) (tC (.int 1))) tNil))))
def n__law_sharper : List Str := ["_law_bag_here", "_law_known_here", "_law_rows", "_law_turn", "_law_row", "_law_at", "_law_words", "_law_word"]
def p__law_sharper : List Str := ["_law_bag_here", "_law_known_here"]
def t__law_sharper (K : PySem.W.Frag) (f__law_known_sizes f__law_tightened f__law_one f__law_take : Sp) : TS :=
    (tSeq (tAsg (tLc (iSeq K (tOp (rIx K) (tVar 1) (tC (.int 1)))) (gName 7) tYes (tCB (rLstOf K) (tCons (tVar 7) tNil)) [7]) (gName 2))
    (tSeq (tFor (iRng1 (tCons (tCall f__law_one [] E0 (tCons (tVar 0) (tCons (tLst (tCons (tC (.int 1)) (tCons (tC (.int 1)) (tCons (tC (.int 2)) tNil)))) tNil))) tNil)) (gName 3) (tSeq (tAsg (tCall f__law_one [] E0 (tCons (tVar 0) (tCons (tVar 2) tNil))) (gName 4))
    (tSeq (tAsg (tCall f__law_take [] E0 (tCons (tVar 0) (tCons (tCB (rLen K) (tCons (tVar 4) tNil)) tNil))) (gName 5))
    (tAsg (tOp rAdd3 (tOp (rIx K) (tVar 4) (tVar 5)) (tC (.int 1))) (gSub (tVar 4) (tVar 5) rSetL)))))
    (tSeq (tAsg (tCall f__law_tightened [] E0 (tCons (tCB (rTupOf) (tCons (tLc (iSeq K (tVar 2)) (gName 4) tYes (tCB (rTupOf) (tCons (tVar 4) tNil)) [4]) tNil)) (tCons (tCall f__law_known_sizes [] E0 (tCons (tVar 1) tNil)) tNil))) (gName 6))
    (tRet (tIf (tTest (tOp (rIsN) (tVar 6) (tC .non))) (tVar 1) (tTupF (tCons (tOp (rIx K) (tVar 1) (tC (.int 0))) (tCons (tVar 6) tNil))))))))
def n__law_of_sizes : List Str := ["_law_bag_here", "_law_house_here", "_law_sizes_here", "_law_order", "_law_rows", "_law_size", "_law_words", "_law_at"]
def p__law_of_sizes : List Str := ["_law_bag_here", "_law_house_here", "_law_sizes_here"]
def t__law_of_sizes (K : PySem.W.Frag) (f__law_tightened f__law_take f__law_mixed : Sp) : TS :=
    (tSeq (tAsg (tCB (rTupOf) (tCons (tCall f__law_mixed [] E0 (tCons (tVar 0) (tCons (tLstRg (tRg1 (tOp (rIx K) (tVar 1) (tC (.int 0))))) tNil))) tNil)) (gName 3))
    (tSeq (tAsg (tLst tNil) (gName 4))
    (tSeq (tFor (iSeq K (tVar 2)) (gName 5) (tDrop (tBM K "list" rAppend (tVar 4) (tCons (tCB (rTupOf) (tCons (tLc (iRng1 (tCons (tOp rAdd3 (tOp (rIx K) (tVar 1) (tC (.int 0))) (tC (.int 1))) tNil)) (gName 7) tYes (tOp rMul3 (tCB (rMin23) (tCons (tVar 7) (tCons (tVar 5) (tCons (tCall f__law_take [] E0 (tCons (tVar 0) (tCons (tOp rAdd3 (tVar 7) (tC (.int 1))) tNil))) tNil)))) (tCB (rInt) (tCons (tOp (rEqD K) (tCall f__law_take [] E0 (tCons (tVar 0) (tCons (tC (.int 3)) tNil))) (tC (.int 0))) tNil))) [7]) tNil)) tNil))))
    (tSeq (tAsg (tCall f__law_tightened [] E0 (tCons (tCB (rTupOf) (tCons (tVar 4) tNil)) (tCons (tVar 2) tNil))) (gName 6))
    (tRet (tTupF (tCons (tVar 3) (tCons (tIf (tTest (tOp (rNotN) (tVar 6) (tC .non))) (tVar 6) (tCall f__law_tightened [] E0 (tCons (tOp rMul3 (tTupF (tCons (tOp rMul3 (tTupF (tCons (tC (.int 0)) tNil)) (tOp rAdd3 (tOp (rIx K) (tVar 1) (tC (.int 0))) (tC (.int 1)))) tNil)) (tCB (rLen K) (tCons (tVar 2) tNil))) (tCons (tVar 2) tNil)))) tNil))))))))
def n__law_swapped : List Str := ["_law_bag_here", "_law_known_here", "_law_order", "_law_one_here", "_law_other"]
def p__law_swapped : List Str := ["_law_bag_here", "_law_known_here"]
def t__law_swapped (K : PySem.W.Frag) (f__law_take : Sp) : TS :=
    (tSeq (tAsg (tCB (rLstOf K) (tCons (tOp (rIx K) (tVar 1) (tC (.int 0))) tNil)) (gName 2))
    (tSeq (tIfS (tTest (tOp (rNeD K) (tVar 2) (tLst tNil))) (tSeq (tPar 3 4 (tCons (tCall f__law_take [] E0 (tCons (tVar 0) (tCons (tCB (rLen K) (tCons (tVar 2) tNil)) tNil))) (tCons (tCall f__law_take [] E0 (tCons (tVar 0) (tCons (tCB (rLen K) (tCons (tVar 2) tNil)) tNil))) tNil)))
    (tAsg (tTupF (tCons (tOp (rIx K) (tVar 2) (tVar 4)) (tCons (tOp (rIx K) (tVar 2) (tVar 3)) tNil))) (gTup K 2 (gCons (gSub (tVar 2) (tVar 3) rSetL) (gCons (gSub (tVar 2) (tVar 4) rSetL) gNil))))) tNext)
    (tRet (tTupF (tCons (tCB (rTupOf) (tCons (tVar 2) tNil)) (tCons (tOp (rIx K) (tVar 1) (tC (.int 1))) tNil))))))
def n__law_some_known : List Str := ["_law_bag_here", "_law_house_here"]
def p__law_some_known : List Str := ["_law_bag_here", "_law_house_here"]
def t__law_some_known (K : PySem.W.Frag) (f__law_take f__law_tight_known f__law_known : Sp) : TS :=
    (tRet (tIf (tTest (tOp (rEqD K) (tCall f__law_take [] E0 (tCons (tVar 0) (tCons (tC (.int 3)) tNil))) (tC (.int 0)))) (tCall f__law_tight_known [] E0 (tCons (tVar 0) (tCons (tVar 1) tNil))) (tOp (rIx K) (tCall f__law_known [] E0 (tCons (tVar 0) (tCons (tVar 1) (tCons (tC (.int 12)) (tCons (tC (.int 6)) tNil))))) (tC (.int 2)))))
def n__law_two_knowns : List Str := ["_law_bag_here", "_law_house_here", "_law_one_here", "_law_way", "_law_other"]
def p__law_two_knowns : List Str := ["_law_bag_here", "_law_house_here"]
def t__law_two_knowns (K : PySem.W.Frag) (f__law_take f__law_sharper f__law_known_sizes f__law_of_sizes f__law_swapped f__law_stirred f__law_one f__law_some_known : Sp) : TS :=
    (tSeq (tAsg (tCall f__law_some_known [] E0 (tCons (tVar 0) (tCons (tVar 1) tNil))) (gName 2))
    (tSeq (tAsg (tCall f__law_one [] E0 (tCons (tVar 0) (tCons (tLst (tCons (tC (.int 0)) (tCons (tC (.int 1)) (tCons (tC (.int 2)) (tCons (tC (.int 3)) (tCons (tC (.int 4)) (tCons (tC (.int 4)) (tCons (tC (.int 5)) (tCons (tC (.int 4)) tNil))))))))) tNil))) (gName 3))
    (tSeq (tAsg (tCall f__law_stirred [] E0 (tCons (tVar 0) (tCons (tVar 2) tNil))) (gName 4))
    (tSeq (tIfS (tOr (tTest (tOp (rEqD K) (tVar 3) (tC (.int 1)))) (tTest (tOp (rEqD K) (tVar 3) (tC (.int 2))))) (tAsg (tCall f__law_sharper [] E0 (tCons (tVar 0) (tCons (tVar 4) tNil))) (gName 4)) tNext)
    (tSeq (tIfS (tTest (tOp (rEqD K) (tVar 3) (tC (.int 3)))) (tAsg (tCall f__law_swapped [] E0 (tCons (tVar 0) (tCons (tVar 2) tNil))) (gName 4)) tNext)
    (tSeq (tIfS (tTest (tOp (rEqD K) (tVar 3) (tC (.int 4)))) (tAsg (tCall f__law_of_sizes [] E0 (tCons (tVar 0) (tCons (tVar 1) (tCons (tCall f__law_known_sizes [] E0 (tCons (tVar 2) tNil)) tNil)))) (gName 4)) tNext)
    (tSeq (tIfS (tTest (tOp (rEqD K) (tVar 3) (tC (.int 5)))) (tAsg (tCall f__law_sharper [] E0 (tCons (tVar 0) (tCons (tVar 2) tNil))) (gName 4)) tNext)
    (tRet (tIf (tTest (tOp (rEqD K) (tCall f__law_take [] E0 (tCons (tVar 0) (tCons (tC (.int 2)) tNil))) (tC (.int 0)))) (tTupF (tCons (tVar 2) (tCons (tVar 4) tNil))) (tTupF (tCons (tVar 4) (tCons (tVar 2) tNil))))))))))))
def n__law_states_that_fit : List Str := ["_law_house_here", "_law_known_here", "_law_state_here"]
def p__law_states_that_fit : List Str := ["_law_house_here", "_law_known_here"]
def t__law_states_that_fit (K : PySem.W.Frag) (f__law_all_states f__law_fits : Sp) : TS :=
    (tRet (tLc (iSeq K (tCall f__law_all_states [] E0 (tCons (tVar 0) tNil))) (gName 2) (tB (tCall f__law_fits [] E0 (tCons (tVar 0) (tCons (tVar 1) (tCons (tVar 2) tNil))))) (tVar 2) [2]))
def n__law_least_of : List Str := ["_law_known_here", "_law_floor", "_law_lot", "_law_found", "_law_size", "_law_free", "_law_at", "_law_least"]
def p__law_least_of : List Str := ["_law_known_here", "_law_floor", "_law_lot"]
def t__law_least_of (K : PySem.W.Frag) : TS :=
    (tSeq (tPar3 3 4 5 (tCons (tC (.int 0)) (tCons (tOp (rIx K) (tOp (rIx K) (tOp (rIx K) (tVar 0) (tC (.int 1))) (tVar 1)) (tUn (rU fun i => .int (-i)) (tC (.int 1)))) (tCons (tC (.int 0)) tNil))))
    (tSeq (tFor (iEnu1 (tCons (tOp (rIx K) (tOp (rIx K) (tVar 0) (tC (.int 1))) (tVar 1)) tNil)) (gTup K 2 (gCons (gName 6) (gCons (gName 7) gNil))) (tSeq (tAug 5 (tCB (rInt) (tCons (tAndV (tOp (rI0 fun i j => .bl (decide (j < i))) (tVar 6) (tC (.int 0))) (tOp (rNotIn2 K) (tOp (rIx K) (tOp (rIx K) (tVar 0) (tC (.int 0))) (tOp (rI0 fun i j => .int (i - j)) (tVar 6) (tC (.int 1)))) (tVar 2))) tNil)) (ipI fun i j => i + j))
    (tAsg (tCB (rMax23) (tCons (tVar 3) (tCons (tOp (rI0 fun i j => .int (i - j)) (tVar 7) (tVar 5)) tNil))) (gName 3))))
    (tRet (tVar 3))))
def n__law_lies : List Str := ["_law_one_here", "_law_other", "_law_floor", "_law_word", "_law_at"]
def p__law_lies : List Str := ["_law_one_here", "_law_other"]
def t__law_lies (K : PySem.W.Frag) (f__law_cuts f__law_least_of f__law_known_sizes : Sp) : TS :=
    (tSeq (tIfS (tTest (tOp (rNeD K) (tCall f__law_known_sizes [] E0 (tCons (tVar 0) tNil)) (tCall f__law_known_sizes [] E0 (tCons (tVar 1) tNil)))) (tRet (tC (.bl false))) tNext)
    (tSeq (tFor (iEnu1 (tCons (tOp (rIx K) (tVar 1) (tC (.int 1))) tNil)) (gTup K 2 (gCons (gName 2) (gCons (gName 3) gNil))) (tFor (iSeq K (tCall f__law_cuts [] E0 (tCons (tVar 3) tNil))) (gName 4) (tIfS (tTest (tOp (rI0 fun i j => .bl (decide (i < j))) (tCall f__law_least_of [] E0 (tCons (tVar 0) (tCons (tVar 2) (tCons (tSl (rSl2 K) (tOp (rIx K) (tVar 1) (tC (.int 0))) tNoPart (tPart (tVar 4))) tNil)))) (tOp (rIx K) (tVar 3) (tVar 4)))) (tRet (tC (.bl false))) tNext)))
    (tRet (tC (.bl true)))))
def n__law_some_house : List Str := ["_law_bag_here", "_law_menu", "_law_things", "_law_house_here"]
def p__law_some_house : List Str := ["_law_bag_here", "_law_menu"]
def t__law_some_house (K : PySem.W.Frag) (f__law_take f__law_house f__law_one : Sp) : TS :=
    (tSeq (tAsg (tCall f__law_one [] E0 (tCons (tVar 0) (tCons (tVar 1) tNil))) (gName 2))
    (tSeq (tAsg (tIf (tTest (tOp (rI0 fun i j => .bl (decide (i < j))) (tVar 2) (tC (.int 7)))) (tCall f__law_house [] E0 (tCons (tVar 0) (tCons (tVar 2) (tCons (tC (.int 3)) (tCons (tC (.int 5)) tNil))))) (tCall f__law_house [] E0 (tCons (tVar 0) (tCons (tVar 2) (tCons (tC (.int 4)) (tCons (tC (.int 12)) tNil)))))) (gName 3))
    (tRet (tIf (tTest (tOp (rI0 fun i j => .bl (decide (j < i))) (tCall f__law_take [] E0 (tCons (tVar 0) (tCons (tC (.int 6)) tNil))) (tC (.int 0)))) (tTupF (tCons (tOp (rI0 fun i j => .int (i - j)) (tVar 2) (tCall f__law_take [] E0 (tCons (tVar 0) (tCons (tC (.int 2)) tNil)))) (tCons (tOp (rIx K) (tVar 3) (tC (.int 1))) tNil))) (tVar 3)))))
def n__law_is_small : List Str := ["_law_house_here"]
def p__law_is_small : List Str := ["_law_house_here"]
def t__law_is_small (K : PySem.W.Frag) : TS :=
    (tRet (tAndV (tOp (rI0 fun i j => .bl (decide (i < j))) (tOp (rIx K) (tVar 0) (tC (.int 0))) (tC (.int 6))) (tAndV (tOp (rI0 fun i j => .bl (decide (i < j))) (tCB (rSum2) (tCons (tOp (rIx K) (tVar 0) (tC (.int 1))) tNil)) (tC (.int 7))) (tOp (rI0 fun i j => .bl (decide (i < j))) (tCB (rLen K) (tCons (tOp (rIx K) (tVar 0) (tC (.int 1))) tNil)) (tC (.int 4))))))
def n__law_two_plain : List Str := ["_law_bag_here", "_law_house_here", "_law_many", "_law_order", "_law_sizes_here", "_law_bare", "_law_state_here", "_law_found", "_law_size", "_law_least", "_law_rows", "_law_words", "_law_count"]
def p__law_two_plain : List Str := ["_law_bag_here", "_law_house_here"]
def t__law_two_plain (K : PySem.W.Frag) (f__law_tightened f__law_known_sizes f__law_take f__law_mixed f__law_sizes f__law_state : Sp) : TS :=
    (tSeq (tPar 2 3 (tCons (tOp (rIx K) (tVar 1) (tC (.int 0))) (tCons (tCB (rTupOf) (tCons (tCall f__law_mixed [] E0 (tCons (tVar 0) (tCons (tLstRg (tRg1 (tOp (rIx K) (tVar 1) (tC (.int 0))))) tNil))) tNil)) tNil)))
    (tSeq (tAsg (tLst (tCons (tCall f__law_state [] E0 (tCons (tVar 0) (tCons (tVar 1) tNil))) (tCons (tCall f__law_state [] E0 (tCons (tVar 0) (tCons (tVar 1) tNil))) (tCons (tOp rMul3 (tTupF (tCons (tCB (rLen K) (tCons (tOp (rIx K) (tVar 1) (tC (.int 1))) tNil)) tNil)) (tVar 2)) tNil)))) (gName 4))
    (tSeq (tAsg (tLst tNil) (gName 5))
    (tSeq (tFor (iSeq K (tSl (rSl2 K) (tCall f__law_mixed [] E0 (tCons (tVar 0) (tCons (tVar 4) tNil))) tNoPart (tPart (tC (.int 2))))) (gName 6) (tDrop (tBM K "list" rAppend (tVar 5) (tCons (tTupF (tCons (tVar 3) (tCons (tCall f__law_tightened [] E0 (tCons (tOp rMul3 (tTupF (tCons (tOp rMul3 (tTupF (tCons (tC (.int 0)) tNil)) (tOp rAdd3 (tVar 2) (tC (.int 1)))) tNil)) (tCB (rLen K) (tCons (tOp (rIx K) (tVar 1) (tC (.int 1))) tNil))) (tCons (tCall f__law_sizes [] E0 (tCons (tVar 1) (tCons (tVar 6) tNil))) tNil))) tNil))) tNil))))
    (tSeq (tIfS (tOr (tTest (tOp (rEqD K) (tCall f__law_take [] E0 (tCons (tVar 0) (tCons (tC (.int 2)) tNil))) (tC (.int 0)))) (tTest (tOp (rI0 fun i j => .bl (decide (i < j))) (tVar 2) (tC (.int 4))))) (tRet (tTupF (tCons (tOp (rIx K) (tVar 5) (tC (.int 0))) (tCons (tOp (rIx K) (tVar 5) (tC (.int 1))) tNil)))) tNext)
    (tSeq (tPar 7 8 (tCons (tLst tNil) (tCons (tCall f__law_known_sizes [] E0 (tCons (tOp (rIx K) (tVar 5) (tC (.int 0))) tNil)) tNil)))
    (tSeq (tFor (iSeq K (tTupF (tCons (tC (.int 1)) (tCons (tC (.int 2)) tNil)))) (gName 9) (tSeq (tAsg (tCB (rTupOf) (tCons (tOp rMul3 (tLst (tCons (tCB (rTupOf) (tCons (tLc (iRng1 (tCons (tOp rAdd3 (tVar 2) (tC (.int 1))) tNil)) (gName 12) tYes (tIf (tTest (tOp (rEqD K) (tVar 12) (tC (.int 2)))) (tVar 9) (tC (.int 0))) [12]) tNil)) tNil)) (tCB (rLen K) (tCons (tVar 8) tNil))) tNil)) (gName 10))
    (tSeq (tAsg (tCall f__law_tightened [] E0 (tCons (tVar 10) (tCons (tVar 8) tNil))) (gName 11))
    (tDrop (tBM K "list" rAppend (tVar 7) (tCons (tIf (tTest (tOp (rIsN) (tVar 11) (tC .non))) (tOp (rIx K) (tVar 5) (tC (.int 0))) (tTupF (tCons (tVar 3) (tCons (tVar 11) tNil)))) tNil))))))
    (tRet (tTupF (tCons (tOp (rIx K) (tVar 7) (tC (.int 0))) (tCons (tOp (rIx K) (tVar 7) (tC (.int 1))) tNil)))))))))))
end FK

/-! FkT: the bodies of the defs as terms of rules. Printed by gen.py. -/
namespace FK
open PySem L2
def n__law_alike : List Str := ["_law_found", "_law_due"]
def p__law_alike : List Str := ["_law_found", "_law_due"]
def t__law_alike (K : PySem.W.Frag) : TS :=
    (tRet (tAndV (tOp (rEqD K) (tVar 0) (tVar 1)) (tOp (rEq) (tCB (rReprD K) (tCons (tVar 0) tNil)) (tCB (rReprD K) (tCons (tVar 1) tNil)))))
def n_law : List Str := ["_law_script", "_law_bag_here", "_law_turn", "_law_house_here", "_law_one_here", "_law_other", "_law_way", "_law_shown", "_law_same", "_law_due", "_law_states", "_law_state_here", "_law_told"]
def p_law : List Str := ["_law_script"]
def t_law (K : PySem.W.Frag) (f__law_known_sizes f_blocks_of f_normal_of f__law_alike f_lies_in f_alike f__law_is_small f__law_all_states f__law_mixed f_fits f__law_states_that_fit f__law_lies f__law_blocks f__law_two_plain f__law_some_known f__law_take f__law_two_knowns f__law_some_house f__law_bag : Sp) : TS :=
    (tSeq (tAsg (tCall f__law_bag [] E0 (tCons (tVar 0) tNil)) (gName 1))
    (tSeq (tFor (iRng1 (tCons (tC (.int 4)) tNil)) (gName 2) (tSeq (tAsg (tCall f__law_some_house [] E0 (tCons (tVar 1) (tCons (tLst (tCons (tC (.int 5)) (tCons (tC (.int 16)) (tCons (tC (.int 5)) (tCons (tC (.int 10)) tNil))))) tNil))) (gName 3))
    (tSeq (tAsg (tCall f__law_two_knowns [] E0 (tCons (tVar 1) (tCons (tVar 3) tNil))) (gTup K 2 (gCons (gName 4) (gCons (gName 5) gNil))))
    (tSeq (tAsg (tCall f__law_take [] E0 (tCons (tVar 1) (tCons (tC (.int 5)) tNil))) (gName 6))
    (tSeq (tIfS (tTest (tOp (rEqD K) (tVar 6) (tC (.int 0)))) (tAsg (tCall f__law_some_known [] E0 (tCons (tVar 1) (tCons (tVar 3) tNil))) (gName 5)) tNext)
    (tSeq (tIfS (tTest (tOp (rEqD K) (tVar 6) (tC (.int 1)))) (tAsg (tCall f__law_two_plain [] E0 (tCons (tVar 1) (tCons (tVar 3) tNil))) (gTup K 2 (gCons (gName 4) (gCons (gName 5) gNil)))) tNext)
    (tSeq (tPar 7 8 (tCons (tCB (rReprD K) (tCons (tLst (tCons (tVar 4) (tCons (tVar 5) tNil))) tNil)) (tCons (tAndV (tOp (rEqD K) (tCall f__law_blocks [] E0 (tCons (tVar 4) tNil)) (tCall f__law_blocks [] E0 (tCons (tVar 5) tNil))) (tOp (rEqD K) (tCall f__law_known_sizes [] E0 (tCons (tVar 4) tNil)) (tCall f__law_known_sizes [] E0 (tCons (tVar 5) tNil)))) tNil)))
    (tSeq (tAsg (tLst (tCons (tCall f__law_lies [] E0 (tCons (tVar 4) (tCons (tVar 5) tNil))) (tCons (tCall f__law_lies [] E0 (tCons (tVar 5) (tCons (tVar 4) tNil))) tNil))) (gName 9))
    (tSeq (tIfS (tB (tCall f__law_is_small [] E0 (tCons (tVar 3) tNil))) (tSeq (tAsg (tLst (tCons (tCall f__law_states_that_fit [] E0 (tCons (tVar 3) (tCons (tVar 4) tNil))) (tCons (tCall f__law_states_that_fit [] E0 (tCons (tVar 3) (tCons (tVar 5) tNil))) tNil))) (gName 10))
    (tSeq (tIfS (tTest (tOp (rNeD K) (tVar 9) (tLst (tCons (tOp (rEqD K) (tLc (iSeq K (tOp (rIx K) (tVar 10) (tC (.int 0)))) (gName 11) (tTest (tOp (rNotIn2 K) (tVar 11) (tOp (rIx K) (tVar 10) (tC (.int 1))))) (tC (.int 1)) [11]) (tLst tNil)) (tCons (tOp (rEqD K) (tLc (iSeq K (tOp (rIx K) (tVar 10) (tC (.int 1)))) (gName 11) (tTest (tOp (rNotIn2 K) (tVar 11) (tOp (rIx K) (tVar 10) (tC (.int 0))))) (tC (.int 1)) [11]) (tLst tNil)) tNil))))) (tRet (tC (.bl false))) tNext)
    (tFor (iSeq K (tSl (rSl2 K) (tCall f__law_mixed [] E0 (tCons (tVar 1) (tCons (tCall f__law_all_states [] E0 (tCons (tVar 3) tNil)) tNil))) tNoPart (tPart (tC (.int 12))))) (gName 11) (tIfS (tNot (tB (tCall f__law_alike [] E0 (tCons (tLst (tCons (tCall f_fits [] E0 (tCons (tVar 3) (tCons (tVar 4) (tCons (tVar 11) tNil)))) (tCons (tCall f_fits [] E0 (tCons (tVar 3) (tCons (tVar 5) (tCons (tVar 11) tNil)))) tNil))) (tCons (tLst (tCons (tOp (rIn2 K) (tVar 11) (tOp (rIx K) (tVar 10) (tC (.int 0)))) (tCons (tOp (rIn2 K) (tVar 11) (tOp (rIx K) (tVar 10) (tC (.int 1)))) tNil))) tNil))))) (tRet (tC (.bl false))) tNext)))) tNext)
    (tSeq (tIfS (tTest (tOp (rNeD K) (tVar 8) (tOp (rEqD K) (tVar 9) (tLst (tCons (tC (.bl true)) (tCons (tC (.bl true)) tNil)))))) (tRet (tC (.bl false))) tNext)
    (tSeq (tAsg (tLst (tCons (tCall f_alike [] E0 (tCons (tVar 4) (tCons (tVar 5) tNil))) (tCons (tCall f_alike [] E0 (tCons (tVar 5) (tCons (tVar 4) tNil))) (tCons (tCall f_lies_in [] E0 (tCons (tVar 3) (tCons (tVar 4) (tCons (tVar 5) tNil)))) (tCons (tCall f_lies_in [] E0 (tCons (tVar 3) (tCons (tVar 5) (tCons (tVar 4) tNil)))) tNil))))) (gName 12))
    (tSeq (tIfS (tOr (tNot (tB (tCall f__law_alike [] E0 (tCons (tVar 12) (tCons (tOp rAdd3 (tLst (tCons (tVar 8) (tCons (tVar 8) tNil))) (tVar 9)) tNil))))) (tNot (tB (tCall f__law_alike [] E0 (tCons (tLst (tCons (tCall f_alike [] E0 (tCons (tVar 4) (tCons (tVar 4) tNil))) (tCons (tCall f_lies_in [] E0 (tCons (tVar 3) (tCons (tVar 5) (tCons (tVar 5) tNil)))) tNil))) (tCons (tLst (tCons (tC (.bl true)) (tCons (tC (.bl true)) tNil))) tNil)))))) (tRet (tC (.bl false))) tNext)
    (tSeq (tIfS (tOr (tTest (tOp (rNeD K) (tOp (rEqD K) (tCall f_normal_of [] E0 (tCons (tVar 4) tNil)) (tCall f_normal_of [] E0 (tCons (tVar 5) tNil))) (tVar 8))) (tTest (tOp (rNe) (tCB (rReprD K) (tCons (tLst (tCons (tVar 4) (tCons (tVar 5) tNil))) tNil)) (tVar 7)))) (tRet (tC (.bl false))) tNext)
    (tIfS (tAnd (tTest (tOp (rEqD K) (tCall f__law_known_sizes [] E0 (tCons (tVar 4) tNil)) (tCall f__law_known_sizes [] E0 (tCons (tVar 5) tNil)))) (tTest (tOp (rNeD K) (tOp (rEqD K) (tCall f_blocks_of [] E0 (tCons (tVar 4) tNil)) (tCall f_blocks_of [] E0 (tCons (tVar 5) tNil))) (tVar 8)))) (tRet (tC (.bl false))) tNext))))))))))))))
    (tRet (tC (.bl true)))))
end FK

/-! FkP: the one lambda: sorted(range(n), key=lambda t: (start[t], t)). -/
namespace FK
open PySem PySem.Spec PySem.Calls PyProof.Rows L2
abbrev lamP (p : Pos) : Arguments := { posonlyargs := [], args := [{ arg := "_law_thing", annotation := none, pos := p }], vararg := none, kwonlyargs := [], kw_defaults := [], kwarg := none, defaults := [] }
abbrev lamB (p2 p3 p4 p5 p6 : Pos) : Expr := .Tuple [.Subscript (.Name "_law_start_here" p2) (.Name "_law_thing" p3) p4, .Name "_law_thing" p5] 0 p6
abbrev lamS : Scope := { kind := .function, names := [("_law_thing", .local), ("_law_start_here", .free)], isGenerator := false, isCoroutine := false, more := [] }
section
variable {prog : Program} {w : World} {A : Around} {s : Shared}
/-- a call of the lambda -/
theorem lam_key {f c' cS a : Addr} {qual : Str} {pm ctv : Value} {p1 p2 p3 p4 p5 p6 : Pos} {cl : List (Str × Addr)} {its : List Value} {ns : List Int} {t k : Int} {tk : Tok}
    (hf : s.heap.get? f = some (PySem.W.kla_obj "<lambda>" qual (lamP p1) (lamB p2 p3 p4 p5 p6) lamS cl pm c' ctv)) (hc : s.heap.CodeRec (.ref c') qual)
    (hcl : cl.lookup ("_law_start_here" : Str) = some cS) (hS : s.heap.IsCell cS (some (.ref a))) (ht : IsTup s.heap a its.toArray) (hi : IntsAre its ns) (hlen : ns.length ≤ 1000) (h0 : 0 ≤ t) (h1 : t < ns.length) (hk : ns.getD t.toNat 0 = k)
    (lim : s.heap.NoLimit) (hd : A.depth < recursionLimit) :
    wpAny (model prog w) A (call (.ref f) [.int t tk]) (PySem.W.KeyPure (.tuple [.int k, .int t]) s) (fun _ _ => False) s := by
  refine wpAny_call ?_
  refine PySem.W.kla_callFunE hd hf rfl rfl rfl rfl hc ?_
  rw [show bindArgs (PySem.W.kla_fn "<lambda>" qual (lamP p1) (lamB p2 p3 p4 p5 p6) lamS cl pm (.ref c') ctv) ⟨[.int t tk], []⟩ = (pure [(("_law_thing" : Str), Value.int t tk)] : Sem (List (Str × Value))) from rfl]
  refine wpAny_pure (wpAny_newFunctionEnv (show ∀ x ∈ lamS.names, x.2 ≠ .cell from by decide +kernel) (fun y hy => ?_) (fun h₁ hns hsb => ⟨lim.fresh _ hsb, ?_⟩) rfl)
  · obtain rfl := List.mem_singleton.mp hy
    show lamS.names.lookup ("_law_thing" : Str) = some .local
    decide +kernel
  have kp : ∀ b o, s.heap.get? b = some o → h₁.get? b = some o := fun b o e => hsb.extBut b o (Nat.ne_of_lt (Heap.lt_size e)) (Heap.get?_push_of_some _ e)
  show codeAny _ _ (.expr _ (PySem.W.envX qual lamS s.heap.objs.size f (.ref c') cl)) _ _
  refine PySem.W.kla_codeExpr ?_
  have hS1 : h₁.IsCell cS (some (.ref a)) := by
    obtain ⟨o, ho, hd⟩ := hS
    exact ⟨o, kp _ _ ho, hd⟩
  have ht1 : IsTup h₁ a its.toArray := ht.keeps kp
  refine wpAny_Tuple_spliced ?_
  show wpAny _ _ (spliced ((false, eval (.Subscript (.Name "_law_start_here" p2) (.Name "_law_thing" p3) p4) _) :: (false, eval (.Name "_law_thing" p5) _) :: [])) _ _ _
  refine spliced_cons (Subscript_ (wpAny_Name (wpAny_loadName_free (c := cS) (v := .ref a) rfl rfl hcl hS1 ?_)))
  refine wpAny_Name (wpAny_loadName_local (v := .int t tk) rfl rfl hns rfl ?_)
  refine item_tuple_ints (vs := its) (ns := ns) ht1 hi h0 h1 (by omega) fun t1 => ?_
  refine spliced_cons (wpAny_Name (wpAny_loadName_local (v := .int t tk) rfl rfl hns rfl ?_))
  refine spliced_nil ⟨by rw [sizeLine_eq]; show 2 ≤ 16777216; decide, ?_⟩
  rw [hk]
  exact ⟨_, _, rfl, fun b o e => Heap.get?_push_of_some _ (kp b o e), .tuple (Heap.get?_push_size _ rfl) rfl rfl (.cons (.int _ _) (.cons (.int _ _) .nil))⟩
end
/-! ### the lambda is made -/
section
variable {X : Cx} {pins : List (Addr × Obj)} {σ : L2.St} {H : Hp} {s : Shared}
theorem lam_mk {c P : Addr} {q : Str} {ar : Arguments} {bd : Expr} {sc : Scope} {lp : Pos} {E : Value → Shared → Prop} {Q : Value → Shared → Prop} (I : Inv X pins σ H s) (TB : LamX.TabB X.base X.mg c P) (hcd : X.env.code = .ref c)
    (hq : X.env.qual ++ "<lambda>" = q) (hT : LamX.TabS H P q) (hdf : defaultsOf ar X.env = ([], [])) (hfr : ∀ y ∈ sc.names, y.2 = .free → ∃ d, X.env.cells.lookup y.1 = some d)
    (k : ∀ (f d : Addr) (pm tv : Value) (H1 : Hp) (s1 : Shared), Inv X pins σ H1 s1 → (∀ b o, b ≠ P → H b = some o → H1 b = some o) → (∀ b o, b ≠ P → s.heap.get? b = some o → s1.heap.get? b = some o) → LamX.TabS H1 P q →
      s1.heap.get? f = some (PySem.W.kla_obj "<lambda>" q ar bd sc (cloFrom X.env.cells sc.names []) pm d tv) → s1.heap.CodeRec (.ref d) q → Q (.ref f) s1) :
    wpAny (model X.prog X.w) X.A (eval (.Lambda ar bd sc lp) X.env) Q E s := by
  subst hq
  obtain ⟨ps, tabH, tri, each⟩ := hT
  have tabS : s.heap.get? P = some { cls := .none, data := .fields ps } := I.hok P _ tabH
  have bat : s.heap.BuiltinsAt X.mg P := TB.bm.keeps I.bk
  have glb := I.mod.glob.keeps I.bk
  have chd := TB.code.keeps I.bk
  refine PySem.W.kla_eval hdf ?_
  cases hit : codeAmong lp ps.toList with
  | some cv =>
    obtain ⟨d, rfl, hd⟩ := each lp cv hit
    refine PySem.W.kla_makeFunctionHit (clos := cloFrom X.env.cells sc.names []) (closure_ok hfr) I.ok.glob glb hcd chd tabS tri hit bat fun tv h1 tk grow _ => ?_
    have I1 : Inv X pins σ H { s with heap := h1.push (PySem.W.kla_obj "<lambda>" (X.env.qual ++ "<lambda>") ar bd sc (cloFrom X.env.cells sc.names []) ((X.mg "__name__").getD .none) d tv), toks := tk } :=
      I.kept fun b o e => Heap.get?_push_of_some _ (grow b o e)
    obtain ⟨⟨oc, vs, t, e1, e2, e3⟩, _⟩ := I1.hok d _ hd
    exact k _ d _ tv H _ I1 (fun b o _ e => e) (fun b o _ e => Heap.get?_push_of_some _ (grow b o e)) ⟨ps, tabH, tri, each⟩ (Heap.get?_push_size _ rfl) ⟨d, oc, vs, t, rfl, e1, e2, e3⟩
  | none =>
    refine PySem.W.kla_makeFunction (clos := cloFrom X.env.cells sc.names []) (mg := X.mg) (c := c) (P := P) (ps := ps) (closure_ok hfr) I.ok.glob glb hcd chd tabS tri hit TB.gP bat fun d tv h1 tk grow ge lt rec tab => ?_
    obtain ⟨_, oc, vs, t, ed, e1, e2, e3⟩ := rec
    cases ed
    have fresh : H d = none := I.hok.fresh ge
    have ne : P ≠ d := ne_of_none tabH fresh
    have I1 := LamX.inv_table (t' := tk) (more := #[rawInt lp.line, rawInt lp.col, .ref d]) (h' := h1.push (PySem.W.kla_obj "<lambda>" (X.env.qual ++ "<lambda>") ar bd sc (cloFrom X.env.cells sc.names []) ((X.mg "__name__").getD .none) d tv)) I tabH
      (fun b o nb e => Heap.get?_push_of_some _ (grow b o nb e)) (Heap.get?_push_of_some _ tab) ge ⟨oc, vs, t, Heap.get?_push_of_some _ e1, e2, e3⟩
    have stay : ∀ b o, b ≠ P → H b = some o → upd (upd H P (.tbl (ps ++ #[rawInt lp.line, rawInt lp.col, .ref d]))) d (LamX.CodeO d (X.env.qual ++ "<lambda>")) b = some o := fun b o nb e => by
      rw [upd_ne (ne_of_none e fresh), upd_ne nb]
      exact e
    refine k _ d _ tv _ _ I1 stay (fun b o nb e => Heap.get?_push_of_some _ (grow b o nb e)) ⟨ps ++ #[rawInt lp.line, rawInt lp.col, .ref d], by rw [upd_ne ne, upd_same], ?_, fun p2 cv hc => ?_⟩ (Heap.get?_push_size _ rfl) ⟨d, oc, vs, t, rfl, Heap.get?_push_of_some _ e1, e2, e3⟩
    · rw [Array.toList_append]
      exact PySem.TriplesOk_snoc _ _ _ _ tri
    · rw [Array.toList_append] at hc
      rcases LamX.among_app _ tri hc with z | z
      · obtain ⟨d0, rfl, h0⟩ := each p2 cv z
        exact ⟨d0, rfl, stay d0 _ (fun z => by rw [z, tabH] at h0; exact LamX.codeO_ne ps (Option.some.inj h0).symm) h0⟩
      · exact ⟨d, z, upd_same⟩
end
/-! ### sorted(range(n), key=..) -/
abbrev isI (v : Value) (x : Int) : Prop := ∃ t : Tok, v = .int x t
theorem each_of_ints : ∀ {vs : List Value} {ns : List Int}, IntsAre vs ns → PySem.W.EachIs isI vs ns
  | _, _, .nil => .nil
  | _, _, .cons _ t h => .cons ⟨t, rfl⟩ (each_of_ints h)
theorem ints_of_each : ∀ {vs : List Value} {ns : List Int}, PySem.W.EachIs isI vs ns → IntsAre vs ns
  | _, _, .nil => .nil
  | _, _, .cons ⟨t, e⟩ h => by rw [e]; exact .cons _ t (ints_of_each h)
def rgN (n : Nat) : List Int := (List.range n).map fun (i : Nat) => (i : Int)
section
variable {prog : Program} {w : World} {A : Around} {E : Value → Shared → Prop} {s : Shared}
theorem srt_key {r q : Addr} {n : Nat} {t u v : Tok} {ks : Int → Int} {Q : Value → Shared → Prop} (hr : IsRange s.heap r 0 n 1 t u v) (hd : A.handled = none) (hz : n ≤ 1000) (hu : A.units + 10 < cLine)
    (turn : ∀ (x : Int) (tk : Tok), 0 ≤ x → x < n → ∀ (h : Heap) (g : Nat), (∀ b o, s.heap.get? b = some o → h.get? b = some o) →
      wpAny (model prog w) A.in1.in1 (call (.ref q) [.int x tk]) (PySem.W.KeyPure (.tuple [.int (ks x), .int x]) { s with heap := h, toks := g }) (fun _ _ => False) { s with heap := h, toks := g })
    (k : ∀ (out : List Value) (ns : List Int) (m : Nat) (h1 h2 : Heap) (tk : Nat), (∀ b o, s.heap.get? b = some o → h1.get? b = some o) → (∀ b o, h1.get? b = some o → h2.get? b = some o) → h2.get? h1.objs.size = some { cls := .type "list", data := .seq out.toArray m } → IntsAre out ns →
      ns.Perm (rgN n) → Q (.ref h1.objs.size) { s with heap := h2, toks := tk }) :
    wpAny (model prog w) A (call (.builtin "sorted") [.ref r] [(Str.ofString "key", .ref q)]) Q E s := by
  have hline := line63
  refine call_function_entry_kw kind_sorted plain_sorted entry_sorted (ksk_s1 _ _) ?_
  unfold Builtin.«sorted»
  refine wpAny_bind (m := checkCount "sorted" 1 1 _) (wpAny_pure ?_)
  refine wpAny_bind (collect_range (n := n) hd hr (small_one (by omega) (by omega) (by omega) (by omega)) ((rangeSize_nat 0 n).trans (by simp)) (by omega) fun h1 tk acc grow items => ?_)
  have hi : IntsAre acc.toList (rgN n) := by
    have a := vals_rg (a := 0) (b := n) (acc := acc) (by simpa using items)
    have e : rgV 0 n = (rgN n).map V.int := by
      unfold rgV rgN
      rw [List.map_map, Int.sub_zero, Int.toNat_natCast]
      exact List.map_congr_left fun i _ => by show V.int (0 + (i : Int)) = V.int (i : Int); rw [Int.zero_add]
    rw [e] at a
    exact ints_of_vals a
  have hal : acc.toList.length = n := by rw [Array.length_toList]; exact items.1
  refine wpAny_bind (wpAny_newList ?_ (by rw [hal, sizeLine_eq]; omega))
  have hoL : (h1.push (seqObj "list" acc.toList.toArray 0)).get? h1.objs.size = some (seqObj "list" acc.toList.toArray 0) := Heap.get?_push_size _ rfl
  have up : ∀ {h2 : Heap}, PySem.W.KeepsBut h1.objs.size (h1.push (seqObj "list" acc.toList.toArray 0)) h2 → ∀ b o, h1.get? b = some o → h2.get? b = some o := fun kp b o e => kp b o (Nat.ne_of_lt (Heap.lt_size e)) (Heap.get?_push_of_some _ e)
  show wpAny _ _ _ _ _ { s with heap := h1.push (seqObj "list" acc.toList.toArray 0), toks := tk }
  refine wpAny_bind (wpAny_holding (PySem.W.list_sort_key_data (b := false) (bs := rgN n) (R := isI) (fun x => .tuple [.int (ks x), .int x]) hoL (each_of_ints hi)
    (PySem.W.AllAlike.of fun x y => by simp [PySem.W.alike, PySem.W.alikeAll]) (PySem.W.Sortable.tuples fun x => ⟨_, _, rfl⟩) (by unfold rgN; rw [List.length_map, List.length_range, sizeLine_eq]; omega) (fun x _ => ?_) (ksk_l1 _ _) (ksk_t1 _ _) (fun v x hv hx h2 g kp => ?_) fun out c h2 g kp hp hlen he => ?_))
  · show A.units + 1 + 1 + PyData.depth (.tuple [.int (ks x), .int x]) < cLine
    simp [PyData.depth, PyData.depthAll]
    omega
  · obtain ⟨tk2, rfl⟩ := hv
    obtain ⟨i, hi, rfl⟩ := List.mem_map.mp hx
    have hi := List.mem_range.mp hi
    exact turn _ tk2 (Int.natCast_nonneg _) (by omega) h2 g fun b o e => up kp b o (grow b o e)
  · exact wpAny_pure ⟨_, rfl, k out _ c h1 h2 g grow (up kp) hp (ints_of_each he) (List.mergeSort_perm _ _)⟩
end
end FK

/-! FkP2: the expression. -/
namespace FK
open PySem PySem.Spec PySem.Calls PyProof.Rows L2
/-! ### sorted(range(n), key=lambda t: (start[t], t)), n at iN, start a cell at iS -/
def tSK (T : Addr × Str) (iN iS : Nat) : TE := fun σ H Q => LamX.TabS H T.1 T.2 ∧ ∃ (n : Nat) (a : Addr) (st : List Int), σ[iN]? = some (some (.int n)) ∧ σ[iS]? = some (some (.ref a)) ∧ TupAt H a (st.map V.int) ∧ st.length = n ∧ n ≤ 1000 ∧
  ∀ (H1 : Hp) (p : Addr) (ns : List Int), (∀ b o, b ≠ T.1 → H b = some o → H1 b = some o) → LamX.TabS H1 T.1 T.2 → H1 p = none → ns.Perm (rgN n) → Q (.ref p) (upd H1 p (.lst (ns.map V.int)))
section
variable {X : Cx}
theorem pe_sk {T : Addr × Str} {c : Addr} {iN iS : Nat} {k : Nat} {p1 p2 p3 p4 p5 p6 q1 q2 q3 q4 lp kp pos : Pos} (hc : X.calm = true) (hr : Room (k + 1) X.A) (hg1 : Gl X "sorted") (hm1 : X.mg "sorted" = none) (hg2 : Gl X "range") (hm2 : X.mg "range" = none)
    (hN : X.N[iN]? = some "_law_many") (hvN : Vis X.env.scope "_law_many") (hS : X.N[iS]? = some "_law_start_here") (hvS : X.env.kindOf "_law_start_here" = some .cell)
    (TB : LamX.TabB X.base X.mg c T.1) (hcd : X.env.code = .ref c) (hq : X.env.qual ++ "<lambda>" = T.2) :
    PE X (.Call (.Name "sorted" p1) [.Call (.Name "range" q1) [.Name "_law_many" q2] [] q3] [⟨some "key", .Lambda (lamP p2) (lamB p3 p4 p5 p6 q4) lamS lp, kp⟩] pos) (tSK T iN iS) := by
  refine ⟨fun pins s σ H Q I h => ?_⟩
  obtain ⟨hT, n, a, st, hn, ha, hta, hlen, hz, q⟩ := h
  refine wpAny_Call_Name_kw (ld_blt I hg1 hm1 boot_sorted ?_)
  refine callWith_kw ?_ rfl rfl rfl rfl
  show wpAny _ _ (spliced ((false, eval (.Call (.Name "range" q1) [.Name "_law_many" q2] [] q3) X.env) :: [])) _ _ s
  refine spliced_cons (wpAny_mono ((show PRg X (.Call (.Name "range" q1) [.Name "_law_many" q2] [] q3) (tRg1 (tVar iN)) from prg_1 hg2 hm2 (pe_var (i := iN) hN hvN)) pins s σ H (fun x y H1 => x = 0 ∧ y = n ∧ H1 = H) I ⟨_, hn, n, rfl, rfl, rfl, rfl⟩) (fun rv s1 hx => ?_) fun _ _ e => e)
  obtain ⟨r, x, y, t, u, v, H1, rfl, hrg, I1, rfl, rfl, rfl⟩ := hx
  refine spliced_nil ?_
  show wpAny _ _ (evalAll ((do let v ← eval (.Lambda (lamP p2) (lamB p3 p4 p5 p6 q4) lamS lp) X.env; standAt pos; pure v) :: [])) _ _ s1
  refine wpAny_evalAll_cons (wpAny_bind (lam_mk I1 TB hcd hq hT rfl ?_ fun f d pm tv H2 s2 I2 hH hh hT2 hf hco => wpAny_bind (wpAny_standAt (wpAny_pure (wpAny_evalAll_nil ?_)))))
  · intro y hy e
    rcases List.mem_cons.mp hy with rfl | hy
    · cases e
    · obtain rfl := List.mem_singleton.mp hy
      exact I1.ok.has _ (.inl hvS)
  show wpAny _ _ (call (.builtin "sorted") [.ref r] [(Str.ofString "key", .ref f)]) _ _ s2
  obtain ⟨m, hns, hl⟩ := I2.loc
  obtain ⟨u1, rv, lk⟩ := hl iS _ _ hS ha (.inr (.inl hvS))
  cases rv
  obtain ⟨cS, hcS, hcell⟩ : ∃ cS, X.env.cells.lookup ("_law_start_here" : Str) = some cS ∧ s2.heap.IsCell cS (some (.ref a)) := by
    rcases lk with ⟨z, _⟩ | ⟨_, cS, z1, z2⟩
    · have z : X.env.kindOf ("_law_start_here" : Str) = some .local := z
      rw [hvS] at z
      cases z
    · exact ⟨cS, z1, z2⟩
  have hta2 : TupAt H2 a (st.map V.int) := by
    obtain ⟨o, hd, ho⟩ := hta
    refine ⟨o, hd, hH a _ (fun z => ?_) ho⟩
    obtain ⟨ps, hP, _⟩ := hT
    rw [z, hP] at ho
    cases ho
  obtain ⟨its, rits, pl, hsz⟩ := I2.tuple hta2.sq
  have hi : IntsAre its st := ints_of_vals rits
  have hr0 := hr.hd
  have hrd := hr.dp
  have hru := hr.un
  refine srt_key (n := n) (ks := fun x => st.getD x.toNat 0) (hh r _ ?_ hrg) hr0 hz (by omega) (fun x tk h0 h1 h3 g grow => ?_) fun out ns mm h3 h4 g grow1 grow2 hp ho hperm => ?_
  · intro z
    obtain ⟨ps, hP, _⟩ := hT
    have e := I1.hok T.1 _ hP
    rw [← z] at e
    have e2 : s1.heap.get? r = some { cls := .none, data := .fields ps } := e
    rw [hrg] at e2
    cases e2
  · refine lam_key (s := { s2 with heap := h3, toks := g }) (c' := d) (cS := cS) (a := a) (its := its) (ns := st) (grow f _ hf) (hco.keeps grow) ?_ ?_ (pl.keeps grow) hi (by omega) h0 (by omega) rfl (I2.nolimit.keeps grow) ?_
    · show ([(("_law_start_here" : Str), (X.env.cells.lookup ("_law_start_here" : Str)).getD 0)] : List (Str × Addr)).lookup ("_law_start_here" : Str) = some cS
      rw [hcS]
      rfl
    · obtain ⟨o, e1, e2⟩ := hcell
      exact ⟨o, grow _ _ e1, e2⟩
    · show X.A.depth < recursionLimit
      omega
  · have I3 : Inv X pins σ H2 { s2 with heap := h3, toks := g } := I2.kept grow1
    have hlen2 : (ns.map V.int).length ≤ sizeLine := by
      rw [List.length_map, hperm.length_eq, sizeLine_eq]
      unfold rgN
      rw [List.length_map, List.length_range]
      omega
    exact ⟨.ref _, upd H2 h3.objs.size (.lst (ns.map V.int)), I3.laid (s := { s2 with heap := h3, toks := g }) (t' := g) (a := h3.objs.size) grow2 (Nat.le_refl _) ⟨hlen2, out, mm, vals_of_ints ho, hp⟩, rfl, q _ _ _ hH hT2 (I3.hok.fresh (Nat.le_refl _)) hperm⟩
end
end FK

/-! FkT: the bodies of the defs as terms of rules. Printed by gen.py. -/
namespace FK
open PySem L2
def t__law_first_known (K : PySem.W.Frag) (T : Addr × Str) (f__law_sizes f__law_rooms_within : Sp) : TS :=
    (tSeq (tAsg (tTupF (tCons (tOp (rIx K) (tVar 0) (tC (.int 0))) (tCons (tLst tNil) tNil))) (gTup K 2 (gCons (gName 2) (gCons (gName 3) gNil))))
    (tSeq (tIfS (tTest (tOp (rIsN) (tVar 1) (tC .non))) (tSeq (tFor (iSeq K (tCall f__law_rooms_within [] E0 (tCons (tVar 0) tNil))) (gName 4) (tDrop (tBM K "list" rAppend (tVar 3) (tCons (tCB (rTupOf) (tCons (tLc (iRng1 (tCons (tOp rAdd3 (tVar 2) (tC (.int 1))) tNil)) (gName 7) tYes (tCB (rMax23) (tCons (tC (.int 0)) (tCons (tOp (rI0 fun i j => .int (i - j)) (tVar 4) (tOp (rI0 fun i j => .int (i - j)) (tVar 2) (tVar 7))) tNil))) [7]) tNil)) tNil))))
    (tRet (tTupF (tCons (tTupRgF (tRg1 (tVar 2))) (tCons (tCB (rTupOf) (tCons (tVar 3) tNil)) tNil))))) tNext)
    (tSeq (tAsg (tCB (rTupOf) (tCons (tSK T 2 1) tNil)) (gName 5))
    (tSeq (tFor (iSeq K (tCall f__law_sizes [] E0 (tCons (tVar 0) (tCons (tVar 1) tNil)))) (gName 6) (tDrop (tBM K "list" rAppend (tVar 3) (tCons (tCB (rTupOf) (tCons (tLc (iRng1 (tCons (tOp rAdd3 (tVar 2) (tC (.int 1))) tNil)) (gName 7) tYes (tCB (rMin23) (tCons (tVar 7) (tCons (tVar 6) tNil))) [7]) tNil)) tNil))))
    (tRet (tTupF (tCons (tVar 5) (tCons (tCB (rTupOf) (tCons (tVar 3) tNil)) tNil))))))))
end FK

/-! FkW: the walks: each body is its term. Printed by gen.py. -/
namespace FK
open PySem PyProof.Rows L2
def top (i : Nat) : Stmt := PySem.Challenge.pw_floorkeepers_k36_whole_alike_by_states.main.body.getD i (.Pass ⟨0, 0, 0, 0⟩)
abbrev s_things_within : Stmt := top 2
theorem sc_things_within : FnScope n_things_within p_things_within (defScope s_things_within) := ⟨rfl, rfl, rfl, by decide +kernel, rfl, by decide +kernel, by decide +kernel⟩
theorem w_things_within {P : Program} {w : World} {K : PySem.W.Frag} {mg : Str → Option Value} {base : Heap} {f : Addr} {cdv : Value} {A : Around} {outer : List Env} {s : Shared} {H : Hp} {E : XK}
    (hr : Room 1 (A.deeper (envOfC "things_within" (defScope s_things_within) s.heap.objs.size f cdv)))  (b_enumerate : mg "enumerate" = none) (b_tuple : mg "tuple" = none) :
    PSs (cxOf CX0 P w K mg base n_things_within "things_within" (defScope s_things_within) f cdv A outer s H E).nox (defBody s_things_within) (t_things_within K ) := by
  have hu := hr.units
  have hv : (A.deeper (envOfC "things_within" (defScope s_things_within) s.heap.objs.size f cdv)).units + 65 < cLine := by have := hr.un; omega
  have nd := sc_things_within.nd
  unfold t_things_within
  exact (pss_one (ps_ret (pe_callTy call_tupleF rfl b_tuple PyProof.Rows.boot_tuple (pa_cons (pe_lc (own := [("thing", 3), ("place", 4)]) (g := (gTup K 2 (gCons (gName 3) (gCons (gName 4) gNil)))) (tt := (tTest (tOp (rI0 fun i j => .bl (decide (i ≤ j))) (tVar 4) (tVar 2)))) rfl nd (pi_enu1 rfl b_enumerate (pa_cons (pv 1) pa_nil)) (blkOk_by (N := n_things_within) (sc := defScope s_things_within) (by decide +kernel)) (fun _ _ _ _ _ => (pg_tup rfl (pgs_cons (pg_name (i := 3) nd rfl (by first | exact Or.inl rfl | exact Or.inr rfl)) (pgs_cons (pg_name (i := 4) nd rfl (by first | exact Or.inl rfl | exact Or.inr rfl)) pgs_nil)))) (fun _ _ _ _ _ => pts_one (pt_cmpR op_le (pv 4) (pv 2) (nomark _))) (fun _ _ _ _ _ => (pv 3))) pa_nil))))
abbrev s_sizes_of : Stmt := top 1
theorem sc_sizes_of : FnScope n_sizes_of p_sizes_of (defScope s_sizes_of) := ⟨rfl, rfl, rfl, by decide +kernel, rfl, by decide +kernel, by decide +kernel⟩
theorem w_sizes_of {P : Program} {w : World} {K : PySem.W.Frag} {mg : Str → Option Value} {base : Heap} {f : Addr} {cdv : Value} {A : Around} {outer : List Env} {s : Shared} {H : Hp} {E : XK} {f_things_within : Sp}
    (hr : Room 2 (A.deeper (envOfC "sizes_of" (defScope s_sizes_of) s.heap.objs.size f cdv))) (c_things_within : Cl P w K mg base 2 "things_within" f_things_within) (b_range : mg "range" = none) (b_len : mg "len" = none) (b_tuple : mg "tuple" = none) :
    PSs (cxOf CX0 P w K mg base n_sizes_of "sizes_of" (defScope s_sizes_of) f cdv A outer s H E).nox (defBody s_sizes_of) (t_sizes_of K f_things_within) := by
  have hu := hr.units
  have hv : (A.deeper (envOfC "sizes_of" (defScope s_sizes_of) s.heap.objs.size f cdv)).units + 65 < cLine := by have := hr.un; omega
  have nd := sc_sizes_of.nd
  unfold t_sizes_of
  exact (pss_one (ps_ret (pe_callTy call_tupleF rfl b_tuple PyProof.Rows.boot_tuple (pa_cons (pe_lc (own := [("floor", 2)]) (g := (gName 2)) (tt := tYes) rfl nd (pi_range1 rfl b_range (pa_cons (pe_callB call_len_seq rfl b_len PySem.boot_len (pa_cons (pe_ix ix_seq (pv 0) pe_int (fun _ _ => rfl)) pa_nil)) pa_nil)) (blkOk_by (N := n_sizes_of) (sc := defScope s_sizes_of) (by decide +kernel)) (fun _ _ _ _ _ => (pg_name (i := 2) nd rfl (by first | exact Or.inl rfl | exact Or.inr rfl))) (fun _ _ _ _ _ => pts_nil) (fun _ _ _ _ _ => (pe_callB call_len_seq rfl b_len PySem.boot_len (pa_cons (pe_cl c_things_within hr (by decide) rfl (pa_cons (pv 0) (pa_cons (pv 1) (pa_cons (pv 2) pa_nil)))) pa_nil)))) pa_nil))))
abbrev s_known_sizes : Stmt := top 4
theorem sc_known_sizes : FnScope n_known_sizes p_known_sizes (defScope s_known_sizes) := ⟨rfl, rfl, rfl, by decide +kernel, rfl, by decide +kernel, by decide +kernel⟩
theorem w_known_sizes {P : Program} {w : World} {K : PySem.W.Frag} {mg : Str → Option Value} {base : Heap} {f : Addr} {cdv : Value} {A : Around} {outer : List Env} {s : Shared} {H : Hp} {E : XK}
    (hr : Room 1 (A.deeper (envOfC "known_sizes" (defScope s_known_sizes) s.heap.objs.size f cdv)))  (b_tuple : mg "tuple" = none) :
    PSs (cxOf CX0 P w K mg base n_known_sizes "known_sizes" (defScope s_known_sizes) f cdv A outer s H E).nox (defBody s_known_sizes) (t_known_sizes K ) := by
  have hu := hr.units
  have hv : (A.deeper (envOfC "known_sizes" (defScope s_known_sizes) s.heap.objs.size f cdv)).units + 65 < cLine := by have := hr.un; omega
  have nd := sc_known_sizes.nd
  unfold t_known_sizes
  exact (pss_one (ps_ret (pe_callTy call_tupleF rfl b_tuple PyProof.Rows.boot_tuple (pa_cons (pe_lc (own := [("word", 1)]) (g := (gName 1)) (tt := tYes) rfl nd (pi_seq (pe_ix ix_seq (pv 0) pe_int (fun _ _ => rfl))) (blkOk_by (N := n_known_sizes) (sc := defScope s_known_sizes) (by decide +kernel)) (fun _ _ _ _ _ => (pg_name (i := 1) nd rfl (by first | exact Or.inl rfl | exact Or.inr rfl))) (fun _ _ _ _ _ => pts_nil) (fun _ _ _ _ _ => (pe_ix ix_seq (pv 1) (pe_un un_neg pe_int) (fun _ _ => rfl)))) pa_nil))))
abbrev s_fits : Stmt := top 6
theorem sc_fits : FnScope n_fits p_fits (defScope s_fits) := ⟨rfl, rfl, rfl, by decide +kernel, rfl, by decide +kernel, by decide +kernel⟩
theorem w_fits {P : Program} {w : World} {K : PySem.W.Frag} {mg : Str → Option Value} {base : Heap} {f : Addr} {cdv : Value} {A : Around} {outer : List Env} {s : Shared} {H : Hp} {E : XK} {f_sizes_of f_known_sizes : Sp}
    (hr : Room 3 (A.deeper (envOfC "fits" (defScope s_fits) s.heap.objs.size f cdv))) (c_sizes_of : Cl P w K mg base 3 "sizes_of" f_sizes_of) (c_known_sizes : Cl P w K mg base 2 "known_sizes" f_known_sizes) (b_enumerate : mg "enumerate" = none) (b_int : mg "int" = none) (b_len : mg "len" = none) :
    PSs (cxOf CX0 P w K mg base n_fits "fits" (defScope s_fits) f cdv A outer s H E).nox (defBody s_fits) (t_fits K f_sizes_of f_known_sizes) := by
  have hu := hr.units
  have hv : (A.deeper (envOfC "fits" (defScope s_fits) s.heap.objs.size f cdv)).units + 65 < cLine := by have := hr.un; omega
  have nd := sc_fits.nd
  unfold t_fits
  exact (pss_cons (ps_asg (pv 1) (pg_tup rfl (pgs_cons (pg_name (i := 3) nd rfl (Or.inl rfl)) (pgs_cons (pg_name (i := 4) nd rfl (Or.inl rfl)) pgs_nil))))
    (pss_cons (ps_if (pt_cmpR (op_neD hu) (pe_cl c_sizes_of hr (by decide) rfl (pa_cons (pv 0) (pa_cons (pv 2) pa_nil))) (pe_cl c_known_sizes hr (by decide) rfl (pa_cons (pv 1) pa_nil)) (nomark _)) (pss_one (ps_ret pe_bl)) pss_nil)
    (pss_cons (ps_set (i := 5) nd rfl (Or.inl rfl) (pe_op op_mul3 (pe_lst (pa_cons pe_int pa_nil)) (pe_callB call_len_seq rfl b_len PySem.boot_len (pa_cons (pv 4) pa_nil))))
    (pss_cons (ps_for PassesOwn.never rfl (pi_enu1 rfl b_enumerate (pa_cons (pv 3) pa_nil)) (pg_tup rfl (pgs_cons (pg_name (i := 6) nd rfl (Or.inl rfl)) (pgs_cons (pg_name (i := 7) nd rfl (Or.inl rfl)) pgs_nil))) (pss_one (ps_for PassesOwn.never rfl (pi_enu1 rfl b_enumerate (pa_cons (pv 4) pa_nil)) (pg_tup rfl (pgs_cons (pg_name (i := 8) nd rfl (Or.inl rfl)) (pgs_cons (pg_name (i := 9) nd rfl (Or.inl rfl)) pgs_nil))) (pss_cons (ps_augS (pv 5) (pv 8) get_list (pe_callTy call_int1 rfl b_int PyProof.Rows.boot_int (pa_cons (pe_cmpR op_le (pe_ix ix_seq (pv 2) (pv 7) (fun _ _ => rfl)) (pv 8) (nomark _)) pa_nil)) ip_add set_list)
    (pss_one (ps_if (pt_cmpR op_lt (pe_ix ix_seq (pv 5) (pv 8) (fun _ _ => rfl)) (pe_ix ix_seq (pv 9) (pe_op op_add3 (pv 6) pe_int) (fun _ _ => rfl)) (nomark _)) (pss_one (ps_ret pe_bl)) pss_nil))))))
    (pss_one (ps_ret pe_bl))))))
abbrev s_may_be_beyond : Stmt := top 8
theorem sc_may_be_beyond : FnScope n_may_be_beyond p_may_be_beyond (defScope s_may_be_beyond) := ⟨rfl, rfl, rfl, by decide +kernel, rfl, by decide +kernel, by decide +kernel⟩
theorem w_may_be_beyond {P : Program} {w : World} {K : PySem.W.Frag} {mg : Str → Option Value} {base : Heap} {f : Addr} {cdv : Value} {A : Around} {outer : List Env} {s : Shared} {H : Hp} {E : XK}
    (hr : Room 1 (A.deeper (envOfC "may_be_beyond" (defScope s_may_be_beyond) s.heap.objs.size f cdv)))  (b_enumerate : mg "enumerate" = none) (b_int : mg "int" = none) :
    PSs (cxOf CX0 P w K mg base n_may_be_beyond "may_be_beyond" (defScope s_may_be_beyond) f cdv A outer s H E).nox (defBody s_may_be_beyond) (t_may_be_beyond K ) := by
  have hu := hr.units
  have hv : (A.deeper (envOfC "may_be_beyond" (defScope s_may_be_beyond) s.heap.objs.size f cdv)).units + 65 < cLine := by have := hr.un; omega
  have nd := sc_may_be_beyond.nd
  unfold t_may_be_beyond
  exact (pss_cons (ps_set (i := 3) nd rfl (Or.inl rfl) pe_int)
    (pss_cons (ps_for PassesOwn.never rfl (pi_enu2 rfl b_enumerate (pa_cons (pv 0) (pa_cons pe_int pa_nil))) (pg_tup rfl (pgs_cons (pg_name (i := 4) nd rfl (Or.inl rfl)) (pgs_cons (pg_name (i := 5) nd rfl (Or.inl rfl)) pgs_nil))) (pss_cons (ps_aug (i := 3) nd rfl (Or.inl rfl) (pe_callTy call_int1 rfl b_int PyProof.Rows.boot_int (pa_cons (pe_cmpR (op_in2 hv) (pv 5) (pv 2) rfl) pa_nil)) ip_add)
    (pss_one (ps_if (pt_cmpR op_gt (pv 3) (pe_op op_sub (pv 4) (pe_ix ix_seq (pv 1) (pv 4) (fun _ _ => rfl))) (nomark _)) (pss_one (ps_ret pe_bl)) pss_nil))))
    (pss_one (ps_ret pe_bl))))
abbrev s_left_within : Stmt := top 9
theorem sc_left_within : FnScope n_left_within p_left_within (defScope s_left_within) := ⟨rfl, rfl, rfl, by decide +kernel, rfl, by decide +kernel, by decide +kernel⟩
theorem w_left_within {P : Program} {w : World} {K : PySem.W.Frag} {mg : Str → Option Value} {base : Heap} {f : Addr} {cdv : Value} {A : Around} {outer : List Env} {s : Shared} {H : Hp} {E : XK} {f_may_be_beyond : Sp}
    (hr : Room 2 (A.deeper (envOfC "left_within" (defScope s_left_within) s.heap.objs.size f cdv))) (c_may_be_beyond : Cl P w K mg base 2 "may_be_beyond" f_may_be_beyond)  :
    PSs (cxOf CX0 P w K mg base n_left_within "left_within" (defScope s_left_within) f cdv A outer s H E).nox (defBody s_left_within) (t_left_within K f_may_be_beyond) := by
  have hu := hr.units
  have hv : (A.deeper (envOfC "left_within" (defScope s_left_within) s.heap.objs.size f cdv)).units + 65 < cLine := by have := hr.un; omega
  have nd := sc_left_within.nd
  unfold t_left_within
  exact (pss_cons (ps_asg (pe_tupF (pa_cons (pe_ix ix_seq (pv 0) pe_int (fun _ _ => rfl)) (pa_cons (pe_ix ix_seq (pe_ix ix_seq (pv 0) pe_int (fun _ _ => rfl)) (pv 1) (fun _ _ => rfl)) (pa_cons (pe_lst pa_nil) pa_nil)))) (pg_tup rfl (pgs_cons (pg_name (i := 3) nd rfl (Or.inl rfl)) (pgs_cons (pg_name (i := 4) nd rfl (Or.inl rfl)) (pgs_cons (pg_name (i := 5) nd rfl (Or.inr rfl)) pgs_nil)))))
    (pss_cons (ps_for PassesOwn.never rfl (pi_seq (pv 2)) (pg_name (i := 6) nd rfl (Or.inl rfl)) (pss_one (ps_if (pt_val (pe_cl c_may_be_beyond hr (by decide) rfl (pa_cons (pv 3) (pa_cons (pv 4) (pa_cons (pe_lst (StX.pa_star (pv 5) (pa_cons (pv 6) pa_nil))) pa_nil))))) (pss_one (ps_expr (pe_bm PySem.F.plainAttrs_list PySem.F.slot_list_append PySem.F.type_list_append mt_append (pv 5) (pa_cons (pv 6) pa_nil)))) pss_nil)))
    (pss_one (ps_ret (pe_lc (own := [("thing", 6)]) (g := (gName 6)) (tt := (tTest (tOp (rNotIn2 K) (tVar 6) (tVar 5)))) rfl nd (pi_seq (pv 3)) (blkOk_by (N := n_left_within) (sc := defScope s_left_within) (by decide +kernel)) (fun _ _ _ _ _ => (pg_name (i := 6) nd rfl (by first | exact Or.inl rfl | exact Or.inr rfl))) (fun _ _ _ _ _ => pts_one (pt_cmpR (op_notIn2 hv) (pv 6) (pv 5) rfl)) (fun _ _ _ _ _ => (pv 6)))))))
abbrev s_state_around : Stmt := top 10
theorem sc_state_around : FnScope n_state_around p_state_around (defScope s_state_around) := ⟨rfl, rfl, rfl, by decide +kernel, rfl, by decide +kernel, by decide +kernel⟩
theorem w_state_around {P : Program} {w : World} {K : PySem.W.Frag} {mg : Str → Option Value} {base : Heap} {f : Addr} {cdv : Value} {A : Around} {outer : List Env} {s : Shared} {H : Hp} {E : XK} {f_known_sizes : Sp}
    (hr : Room 2 (A.deeper (envOfC "state_around" (defScope s_state_around) s.heap.objs.size f cdv))) (c_known_sizes : Cl P w K mg base 2 "known_sizes" f_known_sizes) (b_tuple : mg "tuple" = none) (b_enumerate : mg "enumerate" = none) (b_len : mg "len" = none) :
    PSs (cxOf CX0 P w K mg base n_state_around "state_around" (defScope s_state_around) f cdv A outer s H E).nox (defBody s_state_around) (t_state_around K f_known_sizes) := by
  have hu := hr.units
  have hv : (A.deeper (envOfC "state_around" (defScope s_state_around) s.heap.objs.size f cdv)).units + 65 < cLine := by have := hr.un; omega
  have nd := sc_state_around.nd
  unfold t_state_around
  exact (pss_cons (ps_set (i := 2) nd rfl (Or.inr rfl) (pe_cl c_known_sizes hr (by decide) rfl (pa_cons (pv 0) pa_nil)))
    (pss_cons (ps_set (i := 4) nd rfl (Or.inl rfl) (pe_lst (StX.pa_star (pv 1) (StX.pa_star (pe_lc (own := [("thing", 3)]) (g := (gName 3)) (tt := (tTest (tOp (rNotIn2 K) (tVar 3) (tVar 1)))) rfl nd (pi_seq (pe_ix ix_seq (pv 0) pe_int (fun _ _ => rfl))) (blkOk_by (N := n_state_around) (sc := defScope s_state_around) (by decide +kernel)) (fun _ _ _ _ _ => (pg_name (i := 3) nd rfl (by first | exact Or.inl rfl | exact Or.inr rfl))) (fun _ _ _ _ _ => pts_one (pt_cmpR (op_notIn2 hv) (pv 3) (pv 1) rfl)) (fun _ _ _ _ _ => (pv 3))) pa_nil))))
    (pss_cons (ps_setLc (i := 5) (own := [("thing", 3)]) (g := (gName 3)) (tt := tYes) rfl nd rfl rfl (sw_true rfl rfl rfl (by decide +kernel)) (pi_seq (pv 4)) (blkOk_by (N := n_state_around) (sc := defScope s_state_around) (by decide +kernel)) (fun _ _ _ _ _ => (pg_name (i := 3) nd rfl (by first | exact Or.inl rfl | exact Or.inr rfl))) (fun _ _ _ _ _ => pts_nil) (fun _ _ _ _ _ => (pe_callB call_len_seq rfl b_len PySem.boot_len (pa_cons (pv 2) pa_nil))))
    (pss_cons (ps_for PassesOwn.never rfl (pi_enu1 rfl b_enumerate (pa_cons (pv 4) pa_nil)) (pg_tup rfl (pgs_cons (pg_name (i := 6) nd rfl (Or.inr rfl)) (pgs_cons (pg_name (i := 3) nd rfl (Or.inl rfl)) pgs_nil))) (pss_one (ps_asg (pe_callB call_len_seq rfl b_len PySem.boot_len (pa_cons (pe_lc (own := [("size", 7)]) (g := (gName 7)) (tt := (tTest (tOp (rI0 fun i j => .bl (decide (i ≤ j))) (tVar 7) (tVar 6)))) rfl nd (pi_seq (pv 2)) (blkOk_by (N := n_state_around) (sc := defScope s_state_around) (by decide +kernel)) (fun _ _ _ _ _ => (pg_name (i := 7) nd rfl (by first | exact Or.inl rfl | exact Or.inr rfl))) (fun _ _ _ _ _ => pts_one (pt_cmpR op_le (pv 7) (pv 6) (nomark _))) (fun _ _ _ _ _ => (pv 7))) pa_nil)) (pg_sub (pv 5) (pv 3) set_list))))
    (pss_one (ps_ret (pe_callTy call_tupleF rfl b_tuple PyProof.Rows.boot_tuple (pa_cons (pv 5) pa_nil))))))))
abbrev s_extreme_within : Stmt := top 11
theorem sc_extreme_within : FnScope n_extreme_within p_extreme_within (defScope s_extreme_within) := ⟨rfl, rfl, rfl, by decide +kernel, rfl, by decide +kernel, by decide +kernel⟩
theorem w_extreme_within {P : Program} {w : World} {K : PySem.W.Frag} {mg : Str → Option Value} {base : Heap} {f : Addr} {cdv : Value} {A : Around} {outer : List Env} {s : Shared} {H : Hp} {E : XK} {f_state_around f_left_within : Sp}
    (hr : Room 3 (A.deeper (envOfC "extreme_within" (defScope s_extreme_within) s.heap.objs.size f cdv))) (c_state_around : Cl P w K mg base 3 "state_around" f_state_around) (c_left_within : Cl P w K mg base 3 "left_within" f_left_within) (b_len : mg "len" = none) :
    PSs (cxOf CX0 P w K mg base n_extreme_within "extreme_within" (defScope s_extreme_within) f cdv A outer s H E).nox (defBody s_extreme_within) (t_extreme_within K f_state_around f_left_within) := by
  have hu := hr.units
  have hv : (A.deeper (envOfC "extreme_within" (defScope s_extreme_within) s.heap.objs.size f cdv)).units + 65 < cLine := by have := hr.un; omega
  have nd := sc_extreme_within.nd
  unfold t_extreme_within
  exact (pss_cons (ps_set (i := 4) nd rfl (Or.inl rfl) (pe_cl c_left_within hr (by decide) rfl (pa_cons (pv 0) (pa_cons (pv 2) (pa_cons (pv 3) pa_nil)))))
    (pss_one (ps_ret (pe_tupF (pa_cons (pe_callB call_len_seq rfl b_len PySem.boot_len (pa_cons (pe_lc (own := [("thing", 5)]) (g := (gName 5)) (tt := (tTest (tOp (rIn2 K) (tVar 5) (tVar 1)))) rfl nd (pi_seq (pv 4)) (blkOk_by (N := n_extreme_within) (sc := defScope s_extreme_within) (by decide +kernel)) (fun _ _ _ _ _ => (pg_name (i := 5) nd rfl (by first | exact Or.inl rfl | exact Or.inr rfl))) (fun _ _ _ _ _ => pts_one (pt_cmpR (op_in2 hv) (pv 5) (pv 1) rfl)) (fun _ _ _ _ _ => (pv 5))) pa_nil)) (pa_cons (pe_cl c_state_around hr (by decide) rfl (pa_cons (pv 0) (pa_cons (pv 4) pa_nil))) pa_nil))))))
abbrev s_least_within : Stmt := top 12
theorem sc_least_within : FnScope n_least_within p_least_within (defScope s_least_within) := ⟨rfl, rfl, rfl, by decide +kernel, rfl, by decide +kernel, by decide +kernel⟩
theorem w_least_within {P : Program} {w : World} {K : PySem.W.Frag} {mg : Str → Option Value} {base : Heap} {f : Addr} {cdv : Value} {A : Around} {outer : List Env} {s : Shared} {H : Hp} {E : XK} {f_extreme_within : Sp}
    (hr : Room 4 (A.deeper (envOfC "least_within" (defScope s_least_within) s.heap.objs.size f cdv))) (c_extreme_within : Cl P w K mg base 4 "extreme_within" f_extreme_within) (b_range : mg "range" = none) :
    PSs (cxOf CX0 P w K mg base n_least_within "least_within" (defScope s_least_within) f cdv A outer s H E).nox (defBody s_least_within) (t_least_within K f_extreme_within) := by
  have hu := hr.units
  have hv : (A.deeper (envOfC "least_within" (defScope s_least_within) s.heap.objs.size f cdv)).units + 65 < cLine := by have := hr.un; omega
  have nd := sc_least_within.nd
  unfold t_least_within
  exact (pss_one (ps_ret (pe_cl c_extreme_within hr (by decide) rfl (pa_cons (pv 1) (pa_cons (pv 2) (pa_cons (pv 3) (pa_cons (pe_lst (StX.pa_star (pv 2) (StX.pa_star (pe_lc (own := [("thing", 4)]) (g := (gName 4)) (tt := (tTest (tOp (rNotIn2 K) (tVar 4) (tVar 2)))) rfl nd (pi_range1 rfl b_range (pa_cons (pe_ix ix_seq (pv 0) pe_int (fun _ _ => rfl)) pa_nil)) (blkOk_by (N := n_least_within) (sc := defScope s_least_within) (by decide +kernel)) (fun _ _ _ _ _ => (pg_name (i := 4) nd rfl (by first | exact Or.inl rfl | exact Or.inr rfl))) (fun _ _ _ _ _ => pts_one (pt_cmpR (op_notIn2 hv) (pv 4) (pv 2) rfl)) (fun _ _ _ _ _ => (pv 4))) pa_nil))) pa_nil)))))))
abbrev s_cuts_of : Stmt := top 14
theorem sc_cuts_of : FnScope n_cuts_of p_cuts_of (defScope s_cuts_of) := ⟨rfl, rfl, rfl, by decide +kernel, rfl, by decide +kernel, by decide +kernel⟩
theorem w_cuts_of {P : Program} {w : World} {K : PySem.W.Frag} {mg : Str → Option Value} {base : Heap} {f : Addr} {cdv : Value} {A : Around} {outer : List Env} {s : Shared} {H : Hp} {E : XK}
    (hr : Room 1 (A.deeper (envOfC "cuts_of" (defScope s_cuts_of) s.heap.objs.size f cdv)))  (b_range : mg "range" = none) (b_len : mg "len" = none) :
    PSs (cxOf CX0 P w K mg base n_cuts_of "cuts_of" (defScope s_cuts_of) f cdv A outer s H E).nox (defBody s_cuts_of) (t_cuts_of K ) := by
  have hu := hr.units
  have hv : (A.deeper (envOfC "cuts_of" (defScope s_cuts_of) s.heap.objs.size f cdv)).units + 65 < cLine := by have := hr.un; omega
  have nd := sc_cuts_of.nd
  unfold t_cuts_of
  exact (pss_one (ps_ret (pe_lc (own := [("place", 1)]) (g := (gName 1)) (tt := (tTest (tChain (rI0 fun i j => .bl (decide (i < j))) (rEqD K) (tOp (rIx K) (tVar 0) (tOp (rI0 fun i j => .int (i - j)) (tVar 1) (tC (.int 1)))) (tOp (rIx K) (tVar 0) (tVar 1)) (tOp (rIx K) (tVar 0) (tOp rAdd3 (tVar 1) (tC (.int 1))))))) rfl nd (pi_range2 rfl b_range (pa_cons pe_int (pa_cons (pe_op op_sub (pe_callB call_len_seq rfl b_len PySem.boot_len (pa_cons (pv 0) pa_nil)) pe_int) pa_nil))) (blkOk_by (N := n_cuts_of) (sc := defScope s_cuts_of) (by decide +kernel)) (fun _ _ _ _ _ => (pg_name (i := 1) nd rfl (by first | exact Or.inl rfl | exact Or.inr rfl))) (fun _ _ _ _ _ => pts_one (pt_chain op_lt (op_eqD hu) (pe_ix ix_seq (pv 0) (pe_op op_sub (pv 1) pe_int) (fun _ _ => rfl)) (pe_ix ix_seq (pv 0) (pv 1) (fun _ _ => rfl)) (pe_ix ix_seq (pv 0) (pe_op op_add3 (pv 1) pe_int) (fun _ _ => rfl)))) (fun _ _ _ _ _ => (pv 1)))))
abbrev s_blocks_of : Stmt := top 15
theorem sc_blocks_of : FnScope n_blocks_of p_blocks_of (defScope s_blocks_of) := ⟨rfl, rfl, rfl, by decide +kernel, rfl, by decide +kernel, by decide +kernel⟩
theorem w_blocks_of {P : Program} {w : World} {K : PySem.W.Frag} {mg : Str → Option Value} {base : Heap} {f : Addr} {cdv : Value} {A : Around} {outer : List Env} {s : Shared} {H : Hp} {E : XK} {f_cuts_of : Sp}
    (hr : Room 2 (A.deeper (envOfC "blocks_of" (defScope s_blocks_of) s.heap.objs.size f cdv))) (c_cuts_of : Cl P w K mg base 2 "cuts_of" f_cuts_of) (b_tuple : mg "tuple" = none) (b_sorted : mg "sorted" = none) :
    PSs (cxOf CX0 P w K mg base n_blocks_of "blocks_of" (defScope s_blocks_of) f cdv A outer s H E).nox (defBody s_blocks_of) (t_blocks_of K f_cuts_of) := by
  have hu := hr.units
  have hv : (A.deeper (envOfC "blocks_of" (defScope s_blocks_of) s.heap.objs.size f cdv)).units + 65 < cLine := by have := hr.un; omega
  have nd := sc_blocks_of.nd
  unfold t_blocks_of
  exact (pss_cons (ps_par (i := 1) (j := 2) rfl nd rfl rfl (by decide) rfl rfl (pa_cons (pe_ix ix_seq (pv 0) pe_int (fun _ _ => rfl)) (pa_cons (pe_lst pa_nil) pa_nil)) rfl)
    (pss_cons (ps_for PassesOwn.never rfl (pi_seq (pe_ix ix_seq (pv 0) pe_int (fun _ _ => rfl))) (pg_name (i := 3) nd rfl (Or.inl rfl)) (pss_cons (ps_par (i := 4) (j := 5) rfl nd rfl rfl (by decide) rfl rfl (pa_cons (pe_lst pa_nil) (pa_cons pe_int pa_nil)) rfl)
    (pss_cons (ps_for PassesOwn.never rfl (pi_seq (pe_cl c_cuts_of hr (by decide) rfl (pa_cons (pv 3) pa_nil))) (pg_name (i := 6) nd rfl (Or.inl rfl)) (pss_cons (ps_expr (pe_bm PySem.F.plainAttrs_list PySem.F.slot_list_append PySem.F.type_list_append mt_append (pv 4) (pa_cons (pe_tupF (pa_cons (pe_callTy call_tupleF rfl b_tuple PyProof.Rows.boot_tuple (pa_cons (pe_callB cr_sortB rfl b_sorted PyProof.Rows.boot_sorted (pa_cons (pe_slice sl_2 (pv 1) (po_some (pv 5)) (po_some (pv 6))) pa_nil)) pa_nil)) (pa_cons (pe_ix ix_seq (pv 3) (pv 6) (fun _ _ => rfl)) pa_nil))) pa_nil)))
    (pss_one (ps_set (i := 5) nd rfl (Or.inl rfl) (pv 6)))))
    (pss_one (ps_expr (pe_bm PySem.F.plainAttrs_list PySem.F.slot_list_append PySem.F.type_list_append mt_append (pv 2) (pa_cons (pe_callTy call_tupleF rfl b_tuple PyProof.Rows.boot_tuple (pa_cons (pv 4) pa_nil)) pa_nil)))))))
    (pss_one (ps_ret (pe_callTy call_tupleF rfl b_tuple PyProof.Rows.boot_tuple (pa_cons (pv 2) pa_nil))))))
abbrev s_normal_of : Stmt := top 16
theorem sc_normal_of : FnScope n_normal_of p_normal_of (defScope s_normal_of) := ⟨rfl, rfl, rfl, by decide +kernel, rfl, by decide +kernel, by decide +kernel⟩
theorem w_normal_of {P : Program} {w : World} {K : PySem.W.Frag} {mg : Str → Option Value} {base : Heap} {f : Addr} {cdv : Value} {A : Around} {outer : List Env} {s : Shared} {H : Hp} {E : XK} {f_cuts_of : Sp}
    (hr : Room 2 (A.deeper (envOfC "normal_of" (defScope s_normal_of) s.heap.objs.size f cdv))) (c_cuts_of : Cl P w K mg base 2 "cuts_of" f_cuts_of) (b_tuple : mg "tuple" = none) (b_range : mg "range" = none) (b_len : mg "len" = none) (b_sorted : mg "sorted" = none) :
    PSs (cxOf CX0 P w K mg base n_normal_of "normal_of" (defScope s_normal_of) f cdv A outer s H E).nox (defBody s_normal_of) (t_normal_of K f_cuts_of) := by
  have hu := hr.units
  have hv : (A.deeper (envOfC "normal_of" (defScope s_normal_of) s.heap.objs.size f cdv)).units + 65 < cLine := by have := hr.un; omega
  have nd := sc_normal_of.nd
  unfold t_normal_of
  exact (pss_cons (ps_asg (pv 0) (pg_tup rfl (pgs_cons (pg_name (i := 1) nd rfl (Or.inl rfl)) (pgs_cons (pg_name (i := 2) nd rfl (Or.inl rfl)) pgs_nil))))
    (pss_cons (ps_par (i := 3) (j := 4) rfl nd rfl rfl (by decide) rfl rfl (pa_cons (pe_lst pa_nil) (pa_cons pe_int pa_nil)) rfl)
    (pss_cons (ps_for PassesOwn.never rfl (pi_range2 rfl b_range (pa_cons pe_int (pa_cons (pe_op op_add3 (pe_callB call_len_seq rfl b_len PySem.boot_len (pa_cons (pv 1) pa_nil)) pe_int) pa_nil))) (pg_name (i := 5) nd rfl (Or.inr rfl)) (pss_one (ps_if (PW.pt (pw_or (pt_cmpR (op_eqD hu) (pv 5) (pe_callB call_len_seq rfl b_len PySem.boot_len (pa_cons (pv 1) pa_nil)) (nomark _)) (pw_or1 (pt_cmpR (op_neD hu) (pe_lc (own := [("word", 6)]) (g := (gName 6)) (tt := (tTest (tOp (rIn2 K) (tVar 5) (tCall f_cuts_of [] E0 (tCons (tVar 6) tNil))))) rfl nd (pi_seq (pv 2)) (blkOk_by (N := n_normal_of) (sc := defScope s_normal_of) (by decide +kernel)) (fun _ _ _ _ _ => (pg_name (i := 6) nd rfl (by first | exact Or.inl rfl | exact Or.inr rfl))) (fun _ _ _ _ _ => pts_one (pt_cmpR (op_in2 hv) (pv 5) (pe_cl c_cuts_of hr (by decide) rfl (pa_cons (pv 6) pa_nil)) rfl)) (fun _ _ _ _ _ => (pv 6))) (pe_lst pa_nil) (nomark _))))) (pss_cons (ps_expr (pe_bm PySem.F.plainAttrs_list PySem.F.slot_list_extend PySem.F.type_list_extend mt_extend (pv 3) (pa_cons (pe_callB cr_sortB rfl b_sorted PyProof.Rows.boot_sorted (pa_cons (pe_slice sl_2 (pv 1) (po_some (pv 4)) (po_some (pv 5))) pa_nil)) pa_nil)))
    (pss_one (ps_set (i := 4) nd rfl (Or.inl rfl) (pv 5)))) pss_nil)))
    (pss_one (ps_ret (pe_tupF (pa_cons (pe_callTy call_tupleF rfl b_tuple PyProof.Rows.boot_tuple (pa_cons (pv 3) pa_nil)) (pa_cons (pv 2) pa_nil))))))))
abbrev s_alike : Stmt := top 17
theorem sc_alike : FnScope n_alike p_alike (defScope s_alike) := ⟨rfl, rfl, rfl, by decide +kernel, rfl, by decide +kernel, by decide +kernel⟩
theorem w_alike {P : Program} {w : World} {K : PySem.W.Frag} {mg : Str → Option Value} {base : Heap} {f : Addr} {cdv : Value} {A : Around} {outer : List Env} {s : Shared} {H : Hp} {E : XK} {f_normal_of : Sp}
    (hr : Room 3 (A.deeper (envOfC "alike" (defScope s_alike) s.heap.objs.size f cdv))) (c_normal_of : Cl P w K mg base 3 "normal_of" f_normal_of)  :
    PSs (cxOf CX0 P w K mg base n_alike "alike" (defScope s_alike) f cdv A outer s H E).nox (defBody s_alike) (t_alike K f_normal_of) := by
  have hu := hr.units
  have hv : (A.deeper (envOfC "alike" (defScope s_alike) s.heap.objs.size f cdv)).units + 65 < cLine := by have := hr.un; omega
  have nd := sc_alike.nd
  unfold t_alike
  exact (pss_one (ps_ret (pe_cmpR (op_eqD hu) (pe_cl c_normal_of hr (by decide) rfl (pa_cons (pv 0) pa_nil)) (pe_cl c_normal_of hr (by decide) rfl (pa_cons (pv 1) pa_nil)) (nomark _))))
abbrev s_needs_of : Stmt := top 18
theorem sc_needs_of : FnScope n_needs_of p_needs_of (defScope s_needs_of) := ⟨rfl, rfl, rfl, by decide +kernel, rfl, by decide +kernel, by decide +kernel⟩
theorem w_needs_of {P : Program} {w : World} {K : PySem.W.Frag} {mg : Str → Option Value} {base : Heap} {f : Addr} {cdv : Value} {A : Around} {outer : List Env} {s : Shared} {H : Hp} {E : XK} {f_cuts_of : Sp}
    (hr : Room 2 (A.deeper (envOfC "needs_of" (defScope s_needs_of) s.heap.objs.size f cdv))) (c_cuts_of : Cl P w K mg base 2 "cuts_of" f_cuts_of) (b_enumerate : mg "enumerate" = none) (b_sorted : mg "sorted" = none) (b_tuple : mg "tuple" = none) :
    PSs (cxOf CX0 P w K mg base n_needs_of "needs_of" (defScope s_needs_of) f cdv A outer s H E).nox (defBody s_needs_of) (t_needs_of K f_cuts_of) := by
  have hu := hr.units
  have hv : (A.deeper (envOfC "needs_of" (defScope s_needs_of) s.heap.objs.size f cdv)).units + 65 < cLine := by have := hr.un; omega
  have nd := sc_needs_of.nd
  unfold t_needs_of
  exact (pss_cons (ps_set (i := 1) nd rfl (Or.inl rfl) (pe_lst pa_nil))
    (pss_cons (ps_for PassesOwn.never rfl (pi_enu1 rfl b_enumerate (pa_cons (pe_ix ix_seq (pv 0) pe_int (fun _ _ => rfl)) pa_nil)) (pg_tup rfl (pgs_cons (pg_name (i := 2) nd rfl (Or.inr rfl)) (pgs_cons (pg_name (i := 3) nd rfl (Or.inr rfl)) pgs_nil))) (pss_one (ps_expr (pe_bm PySem.F.plainAttrs_list PySem.F.slot_list_extend PySem.F.type_list_extend mt_extend (pv 1) (pa_cons (pe_lc (own := [("cut", 4)]) (g := (gName 4)) (tt := tYes) rfl nd (pi_seq (pe_cl c_cuts_of hr (by decide) rfl (pa_cons (pv 3) pa_nil))) (blkOk_by (N := n_needs_of) (sc := defScope s_needs_of) (by decide +kernel)) (fun _ _ _ _ _ => (pg_name (i := 4) nd rfl (by first | exact Or.inl rfl | exact Or.inr rfl))) (fun _ _ _ _ _ => pts_nil) (fun _ _ _ _ _ => (pe_tupF (pa_cons (pe_callTy call_tupleF rfl b_tuple PyProof.Rows.boot_tuple (pa_cons (pe_callB cr_sortB rfl b_sorted PyProof.Rows.boot_sorted (pa_cons (pe_slice sl_2 (pe_ix ix_seq (pv 0) pe_int (fun _ _ => rfl)) po_none (po_some (pv 4))) pa_nil)) pa_nil)) (pa_cons (pv 2) (pa_cons (pe_ix ix_seq (pv 3) (pv 4) (fun _ _ => rfl)) pa_nil)))))) pa_nil)))))
    (pss_one (ps_ret (pv 1)))))
abbrev s_lies_in : Stmt := top 19
theorem sc_lies_in : FnScope n_lies_in p_lies_in (defScope s_lies_in) := ⟨rfl, rfl, rfl, by decide +kernel, rfl, by decide +kernel, by decide +kernel⟩
theorem w_lies_in {P : Program} {w : World} {K : PySem.W.Frag} {mg : Str → Option Value} {base : Heap} {f : Addr} {cdv : Value} {A : Around} {outer : List Env} {s : Shared} {H : Hp} {E : XK} {f_needs_of f_least_within f_known_sizes : Sp}
    (hr : Room 5 (A.deeper (envOfC "lies_in" (defScope s_lies_in) s.heap.objs.size f cdv))) (c_needs_of : Cl P w K mg base 3 "needs_of" f_needs_of) (c_least_within : Cl P w K mg base 5 "least_within" f_least_within) (c_known_sizes : Cl P w K mg base 2 "known_sizes" f_known_sizes) (b_all : mg "all" = none) :
    PSs (cxOf CX0 P w K mg base n_lies_in "lies_in" (defScope s_lies_in) f cdv A outer s H E).nox (defBody s_lies_in) (t_lies_in K f_needs_of f_least_within f_known_sizes) := by
  have hu := hr.units
  have hv : (A.deeper (envOfC "lies_in" (defScope s_lies_in) s.heap.objs.size f cdv)).units + 65 < cLine := by have := hr.un; omega
  have nd := sc_lies_in.nd
  unfold t_lies_in
  exact (pss_cons (ps_if (pt_cmpR (op_neD hu) (pe_cl c_known_sizes hr (by decide) rfl (pa_cons (pv 1) pa_nil)) (pe_cl c_known_sizes hr (by decide) rfl (pa_cons (pv 2) pa_nil)) (nomark _)) (pss_one (ps_ret pe_bl)) pss_nil)
    (pss_one (ps_ret (pe_callB (cr_all rfl) rfl b_all PyProof.Rows.boot_all (pa_cons (pe_lc (own := [("lot", 3), ("floor", 4), ("number", 5)]) (g := (gTup K 3 (gCons (gName 3) (gCons (gName 4) (gCons (gName 5) gNil))))) (tt := tYes) rfl nd (pi_seq (pe_cl c_needs_of hr (by decide) rfl (pa_cons (pv 2) pa_nil))) (blkOk_by (N := n_lies_in) (sc := defScope s_lies_in) (by decide +kernel)) (fun _ _ _ _ _ => (pg_tup rfl (pgs_cons (pg_name (i := 3) nd rfl (by first | exact Or.inl rfl | exact Or.inr rfl)) (pgs_cons (pg_name (i := 4) nd rfl (by first | exact Or.inl rfl | exact Or.inr rfl)) (pgs_cons (pg_name (i := 5) nd rfl (by first | exact Or.inl rfl | exact Or.inr rfl)) pgs_nil))))) (fun _ _ _ _ _ => pts_nil) (fun _ _ _ _ _ => (pe_cmpR op_ge (pe_ix ix_seq (pe_cl c_least_within hr (by decide) rfl (pa_cons (pv 0) (pa_cons (pv 1) (pa_cons (pv 3) (pa_cons (pv 4) pa_nil))))) pe_int (fun _ _ => rfl)) (pv 5) (nomark _)))) pa_nil)))))
abbrev s__law_bag : Stmt := top 21
theorem sc__law_bag : FnScope n__law_bag p__law_bag (defScope s__law_bag) := ⟨rfl, rfl, rfl, by decide +kernel, rfl, by decide +kernel, by decide +kernel⟩
theorem w__law_bag {P : Program} {w : World} {K : PySem.W.Frag} {mg : Str → Option Value} {base : Heap} {f : Addr} {cdv : Value} {A : Around} {outer : List Env} {s : Shared} {H : Hp} {E : XK}
    (hr : Room 1 (A.deeper (envOfC "_law_bag" (defScope s__law_bag) s.heap.objs.size f cdv)))  (b_abs : mg "abs" = none) :
    PSs (cxOf CX0 P w K mg base n__law_bag "_law_bag" (defScope s__law_bag) f cdv A outer s H E).nox (defBody s__law_bag) (t__law_bag K ) := by
  have hu := hr.units
  have hv : (A.deeper (envOfC "_law_bag" (defScope s__law_bag) s.heap.objs.size f cdv)).units + 65 < cLine := by have := hr.un; omega
  have nd := sc__law_bag.nd
  unfold t__law_bag
  exact (pss_one (ps_ret (pe_lst (pa_cons pe_int (pa_cons pe_int (pa_cons pe_int (pa_cons (pe_lc (own := [("_law_cell", 1)]) (g := (gName 1)) (tt := tYes) rfl nd (pi_seq (pe_slice sl_2 (pv 0) po_none (po_some pe_int))) (blkOk_by (N := n__law_bag) (sc := defScope s__law_bag) (by decide +kernel)) (fun _ _ _ _ _ => (pg_name (i := 1) nd rfl (by first | exact Or.inl rfl | exact Or.inr rfl))) (fun _ _ _ _ _ => pts_nil) (fun _ _ _ _ _ => (pe_callB call_abs rfl b_abs PyProof.Rows.boot_abs (pa_cons (pv 1) pa_nil)))) pa_nil)))))))
abbrev s__law_take : Stmt := top 22
theorem sc__law_take : FnScope n__law_take p__law_take (defScope s__law_take) := ⟨rfl, rfl, rfl, by decide +kernel, rfl, by decide +kernel, by decide +kernel⟩
theorem w__law_take {P : Program} {w : World} {K : PySem.W.Frag} {mg : Str → Option Value} {base : Heap} {f : Addr} {cdv : Value} {A : Around} {outer : List Env} {s : Shared} {H : Hp} {E : XK}
    (hr : Room 1 (A.deeper (envOfC "_law_take" (defScope s__law_take) s.heap.objs.size f cdv)))  (b_int : mg "int" = none) :
    PSs (cxOf CX0 P w K mg base n__law_take "_law_take" (defScope s__law_take) f cdv A outer s H E).nox (defBody s__law_take) (t__law_take K ) := by
  have hu := hr.units
  have hv : (A.deeper (envOfC "_law_take" (defScope s__law_take) s.heap.objs.size f cdv)).units + 65 < cLine := by have := hr.un; omega
  have nd := sc__law_take.nd
  unfold t__law_take
  exact (pss_cons (ps_if (pt_cmpR (op_eqD hu) (pe_ix ix_seq (pv 0) pe_int (fun _ _ => rfl)) pe_int (nomark _)) (pss_cons (ps_set (i := 2) nd rfl (Or.inl rfl) (pe_ix ix_seq (pe_op op_add3 (pe_slice sl_2 (pe_ix ix_seq (pv 0) pe_int (fun _ _ => rfl)) (po_some (pe_ix ix_seq (pv 0) pe_int (fun _ _ => rfl))) po_none) (pe_lst (pa_cons pe_int pa_nil))) pe_int (fun _ _ => rfl)))
    (pss_cons (ps_augS (pv 0) pe_int get_list pe_int ip_add set_list)
    (pss_cons (ps_if (pt_cmpR op_ge (pv 2) (pe_op op_pow pe_int pe_int) (nomark _)) (pss_one (ps_asg (pv 2) (pg_sub (pv 0) pe_int set_list))) pss_nil)
    (pss_cons (ps_set (i := 3) nd rfl (Or.inl rfl) (pe_op op_add3 (pe_op op_add3 (pe_op op_mul3 (pe_ix ix_seq (pv 0) pe_int (fun _ _ => rfl)) pe_int) (pe_op op_mod (pe_callTy call_int1 rfl b_int PyProof.Rows.boot_int (pa_cons (pv 2) pa_nil)) pe_int)) (pe_op op_mul3 pe_int (pe_ix ix_seq (pv 0) pe_int (fun _ _ => rfl)))))
    (pss_one (ps_asg (pe_op op_mod (pe_callTy call_int1 rfl b_int PyProof.Rows.boot_int (pa_cons (pv 3) pa_nil)) pe_int) (pg_sub (pv 0) pe_int set_list))))))) pss_nil)
    (pss_cons (ps_if (pt_cmpR op_gt (pe_ix ix_seq (pv 0) pe_int (fun _ _ => rfl)) pe_int (nomark _)) (pss_cons (ps_set (i := 4) nd rfl (Or.inl rfl) (pe_op op_mod (pe_callTy call_int1 rfl b_int PyProof.Rows.boot_int (pa_cons (pe_ix ix_seq (pv 0) pe_int (fun _ _ => rfl)) pa_nil)) (pv 1)))
    (pss_cons (ps_asg (pe_op op_fdiv (pe_callTy call_int1 rfl b_int PyProof.Rows.boot_int (pa_cons (pe_ix ix_seq (pv 0) pe_int (fun _ _ => rfl)) pa_nil)) (pv 1)) (pg_sub (pv 0) pe_int set_list))
    (pss_one (ps_ret (pv 4))))) pss_nil)
    (pss_cons (ps_set (i := 5) nd rfl (Or.inl rfl) (pe_op op_mod (pe_callTy call_int1 rfl b_int PyProof.Rows.boot_int (pa_cons (pe_op op_mul3 (pe_op op_add3 (pe_ix ix_seq (pv 0) pe_int (fun _ _ => rfl)) pe_int) pe_int) pa_nil)) pe_int))
    (pss_cons (ps_set (i := 6) nd rfl (Or.inl rfl) (pe_op op_mod (pe_callTy call_int1 rfl b_int PyProof.Rows.boot_int (pa_cons (pe_op op_mul3 (pe_op op_mod (pe_callTy call_int1 rfl b_int PyProof.Rows.boot_int (pa_cons (pe_op op_mul3 (pv 5) (pv 5)) pa_nil)) pe_int) pe_int) pa_nil)) pe_int))
    (pss_one (ps_ret (pe_op op_mod (pe_callTy call_int1 rfl b_int PyProof.Rows.boot_int (pa_cons (pe_op op_fdiv (pv 6) pe_int) pa_nil)) (pv 1))))))))
abbrev s__law_one : Stmt := top 23
theorem sc__law_one : FnScope n__law_one p__law_one (defScope s__law_one) := ⟨rfl, rfl, rfl, by decide +kernel, rfl, by decide +kernel, by decide +kernel⟩
theorem w__law_one {P : Program} {w : World} {K : PySem.W.Frag} {mg : Str → Option Value} {base : Heap} {f : Addr} {cdv : Value} {A : Around} {outer : List Env} {s : Shared} {H : Hp} {E : XK} {f__law_take : Sp}
    (hr : Room 2 (A.deeper (envOfC "_law_one" (defScope s__law_one) s.heap.objs.size f cdv))) (c__law_take : Cl P w K mg base 2 "_law_take" f__law_take) (b_len : mg "len" = none) :
    PSs (cxOf CX0 P w K mg base n__law_one "_law_one" (defScope s__law_one) f cdv A outer s H E).nox (defBody s__law_one) (t__law_one K f__law_take) := by
  have hu := hr.units
  have hv : (A.deeper (envOfC "_law_one" (defScope s__law_one) s.heap.objs.size f cdv)).units + 65 < cLine := by have := hr.un; omega
  have nd := sc__law_one.nd
  unfold t__law_one
  exact (pss_one (ps_ret (pe_ix ix_seq (pv 1) (pe_cl c__law_take hr (by decide) rfl (pa_cons (pv 0) (pa_cons (pe_callB call_len_seq rfl b_len PySem.boot_len (pa_cons (pv 1) pa_nil)) pa_nil))) (fun _ _ => rfl))))
abbrev s__law_mixed : Stmt := top 24
theorem sc__law_mixed : FnScope n__law_mixed p__law_mixed (defScope s__law_mixed) := ⟨rfl, rfl, rfl, by decide +kernel, rfl, by decide +kernel, by decide +kernel⟩
theorem w__law_mixed {P : Program} {w : World} {K : PySem.W.Frag} {mg : Str → Option Value} {base : Heap} {f : Addr} {cdv : Value} {A : Around} {outer : List Env} {s : Shared} {H : Hp} {E : XK} {f__law_take : Sp}
    (hr : Room 2 (A.deeper (envOfC "_law_mixed" (defScope s__law_mixed) s.heap.objs.size f cdv))) (c__law_take : Cl P w K mg base 2 "_law_take" f__law_take) (b_len : mg "len" = none) :
    PSs (cxOf CX0 P w K mg base n__law_mixed "_law_mixed" (defScope s__law_mixed) f cdv A outer s H E).nox (defBody s__law_mixed) (t__law_mixed K f__law_take) := by
  have hu := hr.units
  have hv : (A.deeper (envOfC "_law_mixed" (defScope s__law_mixed) s.heap.objs.size f cdv)).units + 65 < cLine := by have := hr.un; omega
  have nd := sc__law_mixed.nd
  unfold t__law_mixed
  exact (pss_cons (ps_set (i := 2) nd rfl (Or.inl rfl) (pe_lst pa_nil))
    (pss_cons (ps_for PassesOwn.never rfl (pi_seq (pv 1)) (pg_name (i := 3) nd rfl (Or.inl rfl)) (pss_one (ps_expr (pe_bm PySem.F.plainAttrs_list PySem.F.slot_list_insert PySem.F.type_list_insert mt_insert (pv 2) (pa_cons (pe_cl c__law_take hr (by decide) rfl (pa_cons (pv 0) (pa_cons (pe_op op_add3 (pe_callB call_len_seq rfl b_len PySem.boot_len (pa_cons (pv 2) pa_nil)) pe_int) pa_nil))) (pa_cons (pv 3) pa_nil))))))
    (pss_one (ps_ret (pv 2)))))
abbrev s__law_flat : Stmt := top 26
theorem sc__law_flat : FnScope n__law_flat p__law_flat (defScope s__law_flat) := ⟨rfl, rfl, rfl, by decide +kernel, rfl, by decide +kernel, by decide +kernel⟩
theorem w__law_flat {P : Program} {w : World} {K : PySem.W.Frag} {mg : Str → Option Value} {base : Heap} {f : Addr} {cdv : Value} {A : Around} {outer : List Env} {s : Shared} {H : Hp} {E : XK}
    (hr : Room 1 (A.deeper (envOfC "_law_flat" (defScope s__law_flat) s.heap.objs.size f cdv)))   :
    PSs (cxOf CX0 P w K mg base n__law_flat "_law_flat" (defScope s__law_flat) f cdv A outer s H E).nox (defBody s__law_flat) (t__law_flat K ) := by
  have hu := hr.units
  have hv : (A.deeper (envOfC "_law_flat" (defScope s__law_flat) s.heap.objs.size f cdv)).units + 65 < cLine := by have := hr.un; omega
  have nd := sc__law_flat.nd
  unfold t__law_flat
  exact (pss_cons (ps_set (i := 1) nd rfl (Or.inl rfl) (pe_lst pa_nil))
    (pss_cons (ps_for PassesOwn.never rfl (pi_seq (pv 0)) (pg_name (i := 2) nd rfl (Or.inl rfl)) (pss_one (ps_expr (pe_bm PySem.F.plainAttrs_list PySem.F.slot_list_extend PySem.F.type_list_extend mt_extend (pv 1) (pa_cons (pv 2) pa_nil)))))
    (pss_one (ps_ret (pv 1)))))
abbrev s__law_house : Stmt := top 27
theorem sc__law_house : FnScope n__law_house p__law_house (defScope s__law_house) := ⟨rfl, rfl, rfl, by decide +kernel, rfl, by decide +kernel, by decide +kernel⟩
theorem w__law_house {P : Program} {w : World} {K : PySem.W.Frag} {mg : Str → Option Value} {base : Heap} {f : Addr} {cdv : Value} {A : Around} {outer : List Env} {s : Shared} {H : Hp} {E : XK} {f__law_take f__law_one : Sp}
    (hr : Room 3 (A.deeper (envOfC "_law_house" (defScope s__law_house) s.heap.objs.size f cdv))) (c__law_take : Cl P w K mg base 2 "_law_take" f__law_take) (c__law_one : Cl P w K mg base 3 "_law_one" f__law_one) (b_tuple : mg "tuple" = none) (b_min : mg "min" = none) (b_range : mg "range" = none) :
    PSs (cxOf CX0 P w K mg base n__law_house "_law_house" (defScope s__law_house) f cdv A outer s H E).nox (defBody s__law_house) (t__law_house K f__law_take f__law_one) := by
  have hu := hr.units
  have hv : (A.deeper (envOfC "_law_house" (defScope s__law_house) s.heap.objs.size f cdv)).units + 65 < cLine := by have := hr.un; omega
  have nd := sc__law_house.nd
  unfold t__law_house
  exact (pss_cons (ps_set (i := 4) nd rfl (Or.inl rfl) (pe_cl c__law_one hr (by decide) rfl (pa_cons (pv 0) (pa_cons (pe_lst (pa_cons (pv 1) (pa_cons (pv 1) (pa_cons pe_int (pa_cons pe_int (pa_cons pe_int (pa_cons pe_int (pa_cons (pe_cl c__law_take hr (by decide) rfl (pa_cons (pv 0) (pa_cons (pe_op op_add3 (pv 1) pe_int) pa_nil))) pa_nil)))))))) pa_nil))))
    (pss_cons (ps_par (i := 5) (j := 6) rfl nd rfl rfl (by decide) rfl rfl (pa_cons (pe_lst pa_nil) (pa_cons (pv 3) pa_nil)) rfl)
    (pss_cons (ps_for PassesOwn.never rfl (pi_range1 rfl b_range (pa_cons (pe_cl c__law_one hr (by decide) rfl (pa_cons (pv 0) (pa_cons (pe_lst (pa_cons (pv 2) (pa_cons pe_int (pa_cons (pv 2) (pa_cons pe_int (pa_cons (pe_op op_add3 pe_int (pe_cl c__law_take hr (by decide) rfl (pa_cons (pv 0) (pa_cons (pv 2) pa_nil)))) pa_nil)))))) pa_nil))) pa_nil)) (pg_name (i := 7) nd rfl (Or.inl rfl)) (pss_one (ps_if (PW.pt (pw_and (pt_cmpR op_gt (pv 6) pe_int (nomark _)) (pw_and1 (pt_cmpR op_lt (pv 7) (pv 2) (nomark _))))) (pss_cons (ps_expr (pe_bm PySem.F.plainAttrs_list PySem.F.slot_list_append PySem.F.type_list_append mt_append (pv 5) (pa_cons (pe_callB (call_min23 rfl) rfl b_min PyProof.Rows.boot_min (pa_cons (pv 6) (pa_cons (pe_cl c__law_one hr (by decide) rfl (pa_cons (pv 0) (pa_cons (pe_lst (pa_cons pe_int (pa_cons pe_int (pa_cons pe_int (pa_cons pe_int (pa_cons pe_int (pa_cons pe_int (pa_cons (pe_op op_add3 pe_int (pe_cl c__law_take hr (by decide) rfl (pa_cons (pv 0) (pa_cons (pv 3) pa_nil)))) pa_nil)))))))) pa_nil))) pa_nil))) pa_nil)))
    (pss_one (ps_aug (i := 6) nd rfl (Or.inl rfl) (pe_ix ix_seq (pv 5) (pe_un un_neg pe_int) (fun _ _ => rfl)) ip_sub))) pss_nil)))
    (pss_one (ps_ret (pe_tupF (pa_cons (pe_callB (call_min23 rfl) rfl b_min PyProof.Rows.boot_min (pa_cons (pv 4) (pa_cons (pv 1) pa_nil))) (pa_cons (pe_callTy call_tupleF rfl b_tuple PyProof.Rows.boot_tuple (pa_cons (pv 5) pa_nil)) pa_nil))))))))
abbrev s__law_rooms_within : Stmt := top 28
theorem sc__law_rooms_within : FnScope n__law_rooms_within p__law_rooms_within (defScope s__law_rooms_within) := ⟨rfl, rfl, rfl, by decide +kernel, rfl, by decide +kernel, by decide +kernel⟩
theorem w__law_rooms_within {P : Program} {w : World} {K : PySem.W.Frag} {mg : Str → Option Value} {base : Heap} {f : Addr} {cdv : Value} {A : Around} {outer : List Env} {s : Shared} {H : Hp} {E : XK}
    (hr : Room 1 (A.deeper (envOfC "_law_rooms_within" (defScope s__law_rooms_within) s.heap.objs.size f cdv)))  (b_range : mg "range" = none) (b_len : mg "len" = none) (b_sum : mg "sum" = none) :
    PSs (cxOf CX0 P w K mg base n__law_rooms_within "_law_rooms_within" (defScope s__law_rooms_within) f cdv A outer s H E).nox (defBody s__law_rooms_within) (t__law_rooms_within K ) := by
  have hu := hr.units
  have hv : (A.deeper (envOfC "_law_rooms_within" (defScope s__law_rooms_within) s.heap.objs.size f cdv)).units + 65 < cLine := by have := hr.un; omega
  have nd := sc__law_rooms_within.nd
  unfold t__law_rooms_within
  exact (pss_one (ps_ret (pe_lc (own := [("_law_floor", 1)]) (g := (gName 1)) (tt := tYes) rfl nd (pi_range1 rfl b_range (pa_cons (pe_callB call_len_seq rfl b_len PySem.boot_len (pa_cons (pe_ix ix_seq (pv 0) pe_int (fun _ _ => rfl)) pa_nil)) pa_nil)) (blkOk_by (N := n__law_rooms_within) (sc := defScope s__law_rooms_within) (by decide +kernel)) (fun _ _ _ _ _ => (pg_name (i := 1) nd rfl (by first | exact Or.inl rfl | exact Or.inr rfl))) (fun _ _ _ _ _ => pts_nil) (fun _ _ _ _ _ => (pe_callB (cr_sum2 rfl) rfl b_sum PyProof.Rows.boot_sum (pa_cons (pe_slice sl_2 (pe_ix ix_seq (pv 0) pe_int (fun _ _ => rfl)) po_none (po_some (pe_op op_add3 (pv 1) pe_int))) pa_nil))))))
abbrev s__law_within : Stmt := top 29
theorem sc__law_within : FnScope n__law_within p__law_within (defScope s__law_within) := ⟨rfl, rfl, rfl, by decide +kernel, rfl, by decide +kernel, by decide +kernel⟩
theorem w__law_within {P : Program} {w : World} {K : PySem.W.Frag} {mg : Str → Option Value} {base : Heap} {f : Addr} {cdv : Value} {A : Around} {outer : List Env} {s : Shared} {H : Hp} {E : XK}
    (hr : Room 1 (A.deeper (envOfC "_law_within" (defScope s__law_within) s.heap.objs.size f cdv)))  (b_range : mg "range" = none) :
    PSs (cxOf CX0 P w K mg base n__law_within "_law_within" (defScope s__law_within) f cdv A outer s H E).nox (defBody s__law_within) (t__law_within K ) := by
  have hu := hr.units
  have hv : (A.deeper (envOfC "_law_within" (defScope s__law_within) s.heap.objs.size f cdv)).units + 65 < cLine := by have := hr.un; omega
  have nd := sc__law_within.nd
  unfold t__law_within
  exact (pss_one (ps_ret (pe_lc (own := [("_law_thing", 3)]) (g := (gName 3)) (tt := (tTest (tOp (rI0 fun i j => .bl (decide (i ≤ j))) (tOp (rIx K) (tVar 1) (tVar 3)) (tVar 2)))) rfl nd (pi_range1 rfl b_range (pa_cons (pe_ix ix_seq (pv 0) pe_int (fun _ _ => rfl)) pa_nil)) (blkOk_by (N := n__law_within) (sc := defScope s__law_within) (by decide +kernel)) (fun _ _ _ _ _ => (pg_name (i := 3) nd rfl (by first | exact Or.inl rfl | exact Or.inr rfl))) (fun _ _ _ _ _ => pts_one (pt_cmpR op_le (pe_ix ix_seq (pv 1) (pv 3) (fun _ _ => rfl)) (pv 2) (nomark _))) (fun _ _ _ _ _ => (pv 3)))))
abbrev s__law_sizes : Stmt := top 30
theorem sc__law_sizes : FnScope n__law_sizes p__law_sizes (defScope s__law_sizes) := ⟨rfl, rfl, rfl, by decide +kernel, rfl, by decide +kernel, by decide +kernel⟩
theorem w__law_sizes {P : Program} {w : World} {K : PySem.W.Frag} {mg : Str → Option Value} {base : Heap} {f : Addr} {cdv : Value} {A : Around} {outer : List Env} {s : Shared} {H : Hp} {E : XK} {f__law_within : Sp}
    (hr : Room 2 (A.deeper (envOfC "_law_sizes" (defScope s__law_sizes) s.heap.objs.size f cdv))) (c__law_within : Cl P w K mg base 2 "_law_within" f__law_within) (b_range : mg "range" = none) (b_len : mg "len" = none) (b_tuple : mg "tuple" = none) :
    PSs (cxOf CX0 P w K mg base n__law_sizes "_law_sizes" (defScope s__law_sizes) f cdv A outer s H E).nox (defBody s__law_sizes) (t__law_sizes K f__law_within) := by
  have hu := hr.units
  have hv : (A.deeper (envOfC "_law_sizes" (defScope s__law_sizes) s.heap.objs.size f cdv)).units + 65 < cLine := by have := hr.un; omega
  have nd := sc__law_sizes.nd
  unfold t__law_sizes
  exact (pss_one (ps_ret (pe_callTy call_tupleF rfl b_tuple PyProof.Rows.boot_tuple (pa_cons (pe_lc (own := [("_law_floor", 2)]) (g := (gName 2)) (tt := tYes) rfl nd (pi_range1 rfl b_range (pa_cons (pe_callB call_len_seq rfl b_len PySem.boot_len (pa_cons (pe_ix ix_seq (pv 0) pe_int (fun _ _ => rfl)) pa_nil)) pa_nil)) (blkOk_by (N := n__law_sizes) (sc := defScope s__law_sizes) (by decide +kernel)) (fun _ _ _ _ _ => (pg_name (i := 2) nd rfl (by first | exact Or.inl rfl | exact Or.inr rfl))) (fun _ _ _ _ _ => pts_nil) (fun _ _ _ _ _ => (pe_callB call_len_seq rfl b_len PySem.boot_len (pa_cons (pe_cl c__law_within hr (by decide) rfl (pa_cons (pv 0) (pa_cons (pv 1) (pa_cons (pv 2) pa_nil)))) pa_nil)))) pa_nil))))
abbrev s__law_state : Stmt := top 31
theorem sc__law_state : FnScope n__law_state p__law_state (defScope s__law_state) := ⟨rfl, rfl, rfl, by decide +kernel, rfl, by decide +kernel, by decide +kernel⟩
theorem w__law_state {P : Program} {w : World} {K : PySem.W.Frag} {mg : Str → Option Value} {base : Heap} {f : Addr} {cdv : Value} {A : Around} {outer : List Env} {s : Shared} {H : Hp} {E : XK} {f__law_mixed f__law_one f__law_take : Sp}
    (hr : Room 3 (A.deeper (envOfC "_law_state" (defScope s__law_state) s.heap.objs.size f cdv))) (c__law_mixed : Cl P w K mg base 3 "_law_mixed" f__law_mixed) (c__law_one : Cl P w K mg base 3 "_law_one" f__law_one) (c__law_take : Cl P w K mg base 2 "_law_take" f__law_take) (b_tuple : mg "tuple" = none) (b_list : mg "list" = none) (b_range : mg "range" = none) (b_len : mg "len" = none) (b_enumerate : mg "enumerate" = none) :
    PSs (cxOf CX0 P w K mg base n__law_state "_law_state" (defScope s__law_state) f cdv A outer s H E).nox (defBody s__law_state) (t__law_state K f__law_mixed f__law_one f__law_take) := by
  have hu := hr.units
  have hv : (A.deeper (envOfC "_law_state" (defScope s__law_state) s.heap.objs.size f cdv)).units + 65 < cLine := by have := hr.un; omega
  have nd := sc__law_state.nd
  unfold t__law_state
  exact (pss_cons (ps_asg (pv 1) (pg_tup rfl (pgs_cons (pg_name (i := 2) nd rfl (Or.inl rfl)) (pgs_cons (pg_name (i := 3) nd rfl (Or.inl rfl)) pgs_nil))))
    (pss_cons (FK.ps_par3 (i := 4) (j := 5) (k := 6) rfl nd rfl rfl rfl rfl rfl rfl (pa_cons (pe_callTy call_list_of rfl b_list PyProof.Rows.boot_list (pa_cons (pv 3) pa_nil)) (pa_cons (pe_cl c__law_take hr (by decide) rfl (pa_cons (pv 0) (pa_cons pe_int pa_nil))) (pa_cons (pe_op op_mul3 (pe_lst (pa_cons (pe_callB call_len_seq rfl b_len PySem.boot_len (pa_cons (pv 3) pa_nil)) pa_nil)) (pv 2)) pa_nil))) rfl)
    (pss_cons (ps_for PassesOwn.never rfl (pi_seq (pe_cl c__law_mixed hr (by decide) rfl (pa_cons (pv 0) (pa_cons (pe_listRg rfl rfl b_list (prg_1 rfl b_range (pv 2))) pa_nil)))) (pg_name (i := 7) nd rfl (Or.inl rfl)) (pss_cons (ps_setLc (i := 8) (own := [("_law_floor", 9), ("_law_free", 10)]) (g := (gTup K 2 (gCons (gName 9) (gCons (gName 10) gNil)))) (tt := (tTest (tOp (rI0 fun i j => .bl (decide (j < i))) (tVar 10) (tC (.int 0))))) rfl nd rfl rfl (sw_true rfl rfl rfl (by decide +kernel)) (pi_enu1 rfl b_enumerate (pa_cons (pv 4) pa_nil)) (blkOk_by (N := n__law_state) (sc := defScope s__law_state) (by decide +kernel)) (fun _ _ _ _ _ => (pg_tup rfl (pgs_cons (pg_name (i := 9) nd rfl (by first | exact Or.inl rfl | exact Or.inr rfl)) (pgs_cons (pg_name (i := 10) nd rfl (by first | exact Or.inl rfl | exact Or.inr rfl)) pgs_nil)))) (fun _ _ _ _ _ => pts_one (pt_cmpR op_gt (pv 10) pe_int (nomark _))) (fun _ _ _ _ _ => (pv 9)))
    (pss_cons (ps_if (PW.pt (pw_and (pt_cmpR (op_eqD hu) (pv 5) pe_int (nomark _)) (pw_and1 (pt_cmpR (op_neD hu) (pv 8) (pe_lst pa_nil) (nomark _))))) (pss_one (ps_asg (pe_ix ix_seq (pv 8) pe_int (fun _ _ => rfl)) (pg_sub (pv 6) (pv 7) set_list))) (pss_one (ps_if (PW.pt (pw_and (pt_cmpR op_gt (pv 5) pe_int (nomark _)) (pw_and1 (pt_cmpR (op_neD hu) (pv 8) (pe_lst pa_nil) (nomark _))))) (pss_one (ps_asg (pe_cl c__law_one hr (by decide) rfl (pa_cons (pv 0) (pa_cons (pe_op op_add3 (pv 8) (pe_op op_mul3 (pe_lst (pa_cons (pe_callB call_len_seq rfl b_len PySem.boot_len (pa_cons (pv 3) pa_nil)) pa_nil)) (pe_op op_sub (pv 5) pe_int))) pa_nil))) (pg_sub (pv 6) (pv 7) set_list))) pss_nil)))
    (pss_one (ps_if (pt_cmpR op_lt (pe_ix ix_seq (pv 6) (pv 7) (fun _ _ => rfl)) (pe_callB call_len_seq rfl b_len PySem.boot_len (pa_cons (pv 3) pa_nil)) (nomark _)) (pss_one (ps_augS (pv 4) (pe_ix ix_seq (pv 6) (pv 7) (fun _ _ => rfl)) get_list pe_int ip_sub set_list)) pss_nil)))))
    (pss_one (ps_ret (pe_callTy call_tupleF rfl b_tuple PyProof.Rows.boot_tuple (pa_cons (pv 6) pa_nil)))))))
abbrev s__law_full_state : Stmt := top 32
theorem sc__law_full_state : FnScope n__law_full_state p__law_full_state (defScope s__law_full_state) := ⟨rfl, rfl, rfl, by decide +kernel, rfl, by decide +kernel, by decide +kernel⟩
theorem w__law_full_state {P : Program} {w : World} {K : PySem.W.Frag} {mg : Str → Option Value} {base : Heap} {f : Addr} {cdv : Value} {A : Around} {outer : List Env} {s : Shared} {H : Hp} {E : XK} {f__law_mixed f__law_flat : Sp}
    (hr : Room 3 (A.deeper (envOfC "_law_full_state" (defScope s__law_full_state) s.heap.objs.size f cdv))) (c__law_mixed : Cl P w K mg base 3 "_law_mixed" f__law_mixed) (c__law_flat : Cl P w K mg base 2 "_law_flat" f__law_flat) (b_len : mg "len" = none) (b_tuple : mg "tuple" = none) (b_enumerate : mg "enumerate" = none) :
    PSs (cxOf CX0 P w K mg base n__law_full_state "_law_full_state" (defScope s__law_full_state) f cdv A outer s H E).nox (defBody s__law_full_state) (t__law_full_state K f__law_mixed f__law_flat) := by
  have hu := hr.units
  have hv : (A.deeper (envOfC "_law_full_state" (defScope s__law_full_state) s.heap.objs.size f cdv)).units + 65 < cLine := by have := hr.un; omega
  have nd := sc__law_full_state.nd
  unfold t__law_full_state
  exact (pss_cons (ps_set (i := 2) nd rfl (Or.inl rfl) (pe_cl c__law_flat hr (by decide) rfl (pa_cons (pe_lc (own := [("_law_floor", 3), ("_law_rooms", 4)]) (g := (gTup K 2 (gCons (gName 3) (gCons (gName 4) gNil)))) (tt := tYes) rfl nd (pi_enu1 rfl b_enumerate (pa_cons (pe_ix ix_seq (pv 1) pe_int (fun _ _ => rfl)) pa_nil)) (blkOk_by (N := n__law_full_state) (sc := defScope s__law_full_state) (by decide +kernel)) (fun _ _ _ _ _ => (pg_tup rfl (pgs_cons (pg_name (i := 3) nd rfl (by first | exact Or.inl rfl | exact Or.inr rfl)) (pgs_cons (pg_name (i := 4) nd rfl (by first | exact Or.inl rfl | exact Or.inr rfl)) pgs_nil)))) (fun _ _ _ _ _ => pts_nil) (fun _ _ _ _ _ => (pe_op op_mul3 (pe_lst (pa_cons (pv 3) pa_nil)) (pv 4)))) pa_nil)))
    (pss_one (ps_ret (pe_callTy call_tupleF rfl b_tuple PyProof.Rows.boot_tuple (pa_cons (pe_cl c__law_mixed hr (by decide) rfl (pa_cons (pv 0) (pa_cons (pe_op op_add3 (pv 2) (pe_op op_mul3 (pe_lst (pa_cons (pe_callB call_len_seq rfl b_len PySem.boot_len (pa_cons (pe_ix ix_seq (pv 1) pe_int (fun _ _ => rfl)) pa_nil)) pa_nil)) (pe_op op_sub (pe_ix ix_seq (pv 1) pe_int (fun _ _ => rfl)) (pe_callB call_len_seq rfl b_len PySem.boot_len (pa_cons (pv 2) pa_nil))))) pa_nil))) pa_nil)))))
abbrev s__law_start : Stmt := top 33
theorem sc__law_start : FnScope n__law_start p__law_start (defScope s__law_start) := ⟨rfl, rfl, rfl, by decide +kernel, rfl, by decide +kernel, by decide +kernel⟩
theorem w__law_start {P : Program} {w : World} {K : PySem.W.Frag} {mg : Str → Option Value} {base : Heap} {f : Addr} {cdv : Value} {A : Around} {outer : List Env} {s : Shared} {H : Hp} {E : XK} {f__law_one f__law_state : Sp}
    (hr : Room 4 (A.deeper (envOfC "_law_start" (defScope s__law_start) s.heap.objs.size f cdv))) (c__law_one : Cl P w K mg base 3 "_law_one" f__law_one) (c__law_state : Cl P w K mg base 4 "_law_state" f__law_state) (b_sum : mg "sum" = none) (b_int : mg "int" = none) (b_len : mg "len" = none) :
    PSs (cxOf CX0 P w K mg base n__law_start "_law_start" (defScope s__law_start) f cdv A outer s H E).nox (defBody s__law_start) (t__law_start K f__law_one f__law_state) := by
  have hu := hr.units
  have hv : (A.deeper (envOfC "_law_start" (defScope s__law_start) s.heap.objs.size f cdv)).units + 65 < cLine := by have := hr.un; omega
  have nd := sc__law_start.nd
  unfold t__law_start
  exact (pss_cons (ps_set (i := 2) nd rfl (Or.inl rfl) (pe_lst (pa_cons (pe_op op_mul3 (pe_tupF (pa_cons (pe_callB call_len_seq rfl b_len PySem.boot_len (pa_cons (pe_ix ix_seq (pv 1) pe_int (fun _ _ => rfl)) pa_nil)) pa_nil)) (pe_ix ix_seq (pv 1) pe_int (fun _ _ => rfl))) (pa_cons (pe_cl c__law_state hr (by decide) rfl (pa_cons (pv 0) (pa_cons (pv 1) pa_nil))) (pa_cons (pe_cl c__law_state hr (by decide) rfl (pa_cons (pv 0) (pa_cons (pv 1) pa_nil))) pa_nil)))))
    (pss_one (ps_ret (pe_cl c__law_one hr (by decide) rfl (pa_cons (pv 0) (pa_cons (pe_op op_add3 (pv 2) (pe_op op_mul3 (pe_lst (pa_cons pe_non pa_nil)) (pe_callTy call_int1 rfl b_int PyProof.Rows.boot_int (pa_cons (pe_cmpR op_ge (pe_ix ix_seq (pv 1) pe_int (fun _ _ => rfl)) (pe_callB (cr_sum2 rfl) rfl b_sum PyProof.Rows.boot_sum (pa_cons (pe_ix ix_seq (pv 1) pe_int (fun _ _ => rfl)) pa_nil)) (nomark _)) pa_nil)))) pa_nil))))))
abbrev s__law_done : Stmt := top 34
theorem sc__law_done : FnScope n__law_done p__law_done (defScope s__law_done) := ⟨rfl, rfl, rfl, by decide +kernel, rfl, by decide +kernel, by decide +kernel⟩
theorem w__law_done {P : Program} {w : World} {K : PySem.W.Frag} {mg : Str → Option Value} {base : Heap} {f : Addr} {cdv : Value} {A : Around} {outer : List Env} {s : Shared} {H : Hp} {E : XK}
    (hr : Room 1 (A.deeper (envOfC "_law_done" (defScope s__law_done) s.heap.objs.size f cdv)))  (b_tuple : mg "tuple" = none) (b_len : mg "len" = none) (b_enumerate : mg "enumerate" = none) (b_list : mg "list" = none) :
    PSs (cxOf CX0 P w K mg base n__law_done "_law_done" (defScope s__law_done) f cdv A outer s H E).nox (defBody s__law_done) (t__law_done K ) := by
  have hu := hr.units
  have hv : (A.deeper (envOfC "_law_done" (defScope s__law_done) s.heap.objs.size f cdv)).units + 65 < cLine := by have := hr.un; omega
  have nd := sc__law_done.nd
  unfold t__law_done
  exact (pss_cons (ps_asg (pv 2) (pg_tup rfl (pgs_cons (pg_name (i := 3) nd rfl (Or.inl rfl)) (pgs_cons (pg_name (i := 4) nd rfl (Or.inl rfl)) (pgs_cons (pg_name (i := 5) nd rfl (Or.inl rfl)) pgs_nil)))))
    (pss_cons (ps_par (i := 6) (j := 7) rfl nd rfl rfl (by decide) rfl rfl (pa_cons (pe_callB call_len_seq rfl b_len PySem.boot_len (pa_cons (pe_ix ix_seq (pv 0) pe_int (fun _ _ => rfl)) pa_nil)) (pa_cons (pe_callTy call_list_of rfl b_list PyProof.Rows.boot_list (pa_cons (pv 1) pa_nil)) pa_nil)) rfl)
    (pss_cons (ps_if (pt_cmpR (op_eqD hu) (pv 3) pe_str (nomark _)) (pss_cons (ps_asg (pv 6) (pg_sub (pv 7) (pv 4) set_list))
    (pss_one (ps_ret (pe_ifExp (pt_cmpR (op_eqD hu) (pv 5) (pe_tupF pa_nil) (nomark _)) (pe_callTy call_tupleF rfl b_tuple PyProof.Rows.boot_tuple (pa_cons (pv 7) pa_nil)) pe_non)))) pss_nil)
    (pss_cons (ps_asg pe_int (pg_sub (pv 7) (pv 4) set_list))
    (pss_cons (ps_for PassesOwn.never rfl (pi_enu1 rfl b_enumerate (pa_cons (pv 5) pa_nil)) (pg_tup rfl (pgs_cons (pg_name (i := 8) nd rfl (Or.inl rfl)) (pgs_cons (pg_name (i := 9) nd rfl (Or.inl rfl)) pgs_nil))) (pss_cons (ps_if (PW.pt (pw_or (pt_cmpR op_ge (pv 8) (pv 6) (nomark _)) (pw_or (pt_cmpR op_le (pe_bm PySem.F.plainAttrs_list PySem.F.slot_list_count PySem.F.type_list_count mt_lcount (pv 7) (pa_cons (pv 8) pa_nil)) (pe_ix ix_seq (pe_ix ix_seq (pv 0) pe_int (fun _ _ => rfl)) (pv 8) (fun _ _ => rfl)) (nomark _)) (pw_or (pt_cmpR (op_neD hu) (pe_ix ix_seq (pv 7) (pv 9) (fun _ _ => rfl)) (pv 8) (nomark _)) (pw_or1 (PW.pt (pw_and (pt_cmpR (op_eqD hu) (pv 8) pe_int (nomark _)) (pw_and1 (pt_cmpR (op_eqD hu) (pv 9) (pv 4) (nomark _)))))))))) (pss_one (ps_ret pe_non)) pss_nil)
    (pss_one (ps_asg (pe_op op_add3 (pv 8) pe_int) (pg_sub (pv 7) (pv 9) set_list)))))
    (pss_cons (ps_set (i := 10) nd rfl (Or.inl rfl) (pe_callB call_len_seq rfl b_len PySem.boot_len (pa_cons (pv 5) pa_nil)))
    (pss_one (ps_ret (pe_ifExp (PW.pt (pw_or (pt_cmpR op_ge (pv 10) (pv 6) (nomark _)) (pw_or1 (pt_cmpR op_le (pe_bm PySem.F.plainAttrs_list PySem.F.slot_list_count PySem.F.type_list_count mt_lcount (pv 7) (pa_cons (pv 10) pa_nil)) (pe_ix ix_seq (pe_ix ix_seq (pv 0) pe_int (fun _ _ => rfl)) (pv 10) (fun _ _ => rfl)) (nomark _))))) (pe_callTy call_tupleF rfl b_tuple PyProof.Rows.boot_tuple (pa_cons (pv 7) pa_nil)) pe_non)))))))))
abbrev s__law_drawn_move : Stmt := top 35
theorem sc__law_drawn_move : FnScope n__law_drawn_move p__law_drawn_move (defScope s__law_drawn_move) := ⟨rfl, rfl, rfl, by decide +kernel, rfl, by decide +kernel, by decide +kernel⟩
theorem w__law_drawn_move {P : Program} {w : World} {K : PySem.W.Frag} {mg : Str → Option Value} {base : Heap} {f : Addr} {cdv : Value} {A : Around} {outer : List Env} {s : Shared} {H : Hp} {E : XK} {f__law_one : Sp}
    (hr : Room 3 (A.deeper (envOfC "_law_drawn_move" (defScope s__law_drawn_move) s.heap.objs.size f cdv))) (c__law_one : Cl P w K mg base 3 "_law_one" f__law_one) (b_len : mg "len" = none) (b_range : mg "range" = none) (b_list : mg "list" = none) :
    PSs (cxOf CX0 P w K mg base n__law_drawn_move "_law_drawn_move" (defScope s__law_drawn_move) f cdv A outer s H E).nox (defBody s__law_drawn_move) (t__law_drawn_move K f__law_one) := by
  have hu := hr.units
  have hv : (A.deeper (envOfC "_law_drawn_move" (defScope s__law_drawn_move) s.heap.objs.size f cdv)).units + 65 < cLine := by have := hr.un; omega
  have nd := sc__law_drawn_move.nd
  unfold t__law_drawn_move
  exact (pss_cons (ps_asg (pe_tupF (pa_cons (pe_tupF pa_nil) (pa_cons (pe_callTy call_list_of rfl b_list PyProof.Rows.boot_list (pa_cons (pv 2) pa_nil)) pa_nil))) (pg_tup rfl (pgs_cons (pg_name (i := 5) nd rfl (Or.inl rfl)) (pgs_cons (pg_name (i := 6) nd rfl (Or.inr rfl)) pgs_nil))))
    (pss_cons (ps_asg pe_int (pg_sub (pv 6) (pv 3) set_list))
    (pss_cons (ps_while PassesOwn.never (PW.pt (pw_and (pt_cmpR op_lt (pe_callB call_len_seq rfl b_len PySem.boot_len (pa_cons (pv 5) pa_nil)) (pe_callB call_len_seq rfl b_len PySem.boot_len (pa_cons (pe_ix ix_seq (pv 1) pe_int (fun _ _ => rfl)) pa_nil)) (nomark _)) (pw_and1 (pt_cmpR op_gt (pe_bm PySem.F.plainAttrs_list PySem.F.slot_list_count PySem.F.type_list_count mt_lcount (pv 6) (pa_cons (pe_callB call_len_seq rfl b_len PySem.boot_len (pa_cons (pv 5) pa_nil)) pa_nil)) (pe_ix ix_seq (pe_ix ix_seq (pv 1) pe_int (fun _ _ => rfl)) (pe_callB call_len_seq rfl b_len PySem.boot_len (pa_cons (pv 5) pa_nil)) (fun _ _ => rfl)) (nomark _))))) (pss_cons (ps_set (i := 7) nd rfl (Or.inr rfl) (pe_callB call_len_seq rfl b_len PySem.boot_len (pa_cons (pv 5) pa_nil)))
    (pss_cons (ps_setLc (i := 8) (own := [("_law_one_here", 10)]) (g := (gName 10)) (tt := (tAnd (tTest (tOp (rEqD K) (tOp (rIx K) (tVar 6) (tVar 10)) (tVar 7))) (tOr (tTest (tOp (rI0 fun i j => .bl (decide (j < i))) (tVar 7) (tC (.int 0)))) (tTest (tOp (rNeD K) (tVar 10) (tVar 3)))))) rfl nd rfl rfl (sw_true rfl rfl rfl (by decide +kernel)) (pi_range1 rfl b_range (pa_cons (pe_ix ix_seq (pv 1) pe_int (fun _ _ => rfl)) pa_nil)) (blkOk_by (N := n__law_drawn_move) (sc := defScope s__law_drawn_move) (by decide +kernel)) (fun _ _ _ _ _ => (pg_name (i := 10) nd rfl (by first | exact Or.inl rfl | exact Or.inr rfl))) (fun _ _ _ _ _ => pts_one (PW.pt (pw_and (pt_cmpR (op_eqD hu) (pe_ix ix_seq (pv 6) (pv 10) (fun _ _ => rfl)) (pv 7) (nomark _)) (pw_and1 (PW.pt (pw_or (pt_cmpR op_gt (pv 7) pe_int (nomark _)) (pw_or1 (pt_cmpR (op_neD hu) (pv 10) (pv 3) (nomark _))))))))) (fun _ _ _ _ _ => (pv 10)))
    (pss_cons (ps_set (i := 9) nd rfl (Or.inl rfl) (pe_ifExp (pt_cmpR (op_eqD hu) (pv 4) pe_int (nomark _)) (pe_ix ix_seq (pv 8) (pe_un un_neg pe_int) (fun _ _ => rfl)) (pe_ifExp (PW.pt (pw_and (pt_cmpR (op_eqD hu) (pv 4) pe_int (nomark _)) (pw_and1 (pt_cmpR op_gt (pv 7) pe_int (nomark _))))) (pe_ix ix_seq (pv 5) (pe_un un_neg pe_int) (fun _ _ => rfl)) (pe_cl c__law_one hr (by decide) rfl (pa_cons (pv 0) (pa_cons (pv 8) pa_nil))))))
    (pss_one (ps_asg (pe_tupF (pa_cons (pe_op op_add3 (pv 5) (pe_tupF (pa_cons (pv 9) pa_nil))) (pa_cons (pe_op op_add3 (pv 7) pe_int) pa_nil))) (pg_tup rfl (pgs_cons (pg_name (i := 5) nd rfl (Or.inl rfl)) (pgs_cons (pg_sub (pv 6) (pv 9) set_list) pgs_nil)))))))))
    (pss_one (ps_ret (pe_tupF (pa_cons pe_str (pa_cons (pv 3) (pa_cons (pv 5) pa_nil)))))))))
abbrev s__law_run : Stmt := top 36
theorem sc__law_run : FnScope n__law_run p__law_run (defScope s__law_run) := ⟨rfl, rfl, rfl, by decide +kernel, rfl, by decide +kernel, by decide +kernel⟩
theorem w__law_run {P : Program} {w : World} {K : PySem.W.Frag} {mg : Str → Option Value} {base : Heap} {f : Addr} {cdv : Value} {A : Around} {outer : List Env} {s : Shared} {H : Hp} {E : XK} {f__law_done f__law_take f__law_drawn_move f__law_one f__law_mixed : Sp}
    (hr : Room 4 (A.deeper (envOfC "_law_run" (defScope s__law_run) s.heap.objs.size f cdv))) (c__law_done : Cl P w K mg base 2 "_law_done" f__law_done) (c__law_take : Cl P w K mg base 2 "_law_take" f__law_take) (c__law_drawn_move : Cl P w K mg base 4 "_law_drawn_move" f__law_drawn_move) (c__law_one : Cl P w K mg base 3 "_law_one" f__law_one) (c__law_mixed : Cl P w K mg base 3 "_law_mixed" f__law_mixed) (b_tuple : mg "tuple" = none) (b_range : mg "range" = none) (b_list : mg "list" = none) (b_max : mg "max" = none) :
    PSs (cxOf CX0 P w K mg base n__law_run "_law_run" (defScope s__law_run) f cdv A outer s H E).nox (defBody s__law_run) (t__law_run K f__law_done f__law_take f__law_drawn_move f__law_one f__law_mixed) := by
  have hu := hr.units
  have hv : (A.deeper (envOfC "_law_run" (defScope s__law_run) s.heap.objs.size f cdv)).units + 65 < cLine := by have := hr.un; omega
  have nd := sc__law_run.nd
  unfold t__law_run
  exact (pss_cons (ps_asg (pe_tupF (pa_cons (pe_lst pa_nil) (pa_cons (pe_lst pa_nil) (pa_cons (pe_lst (pa_cons (pv 2) pa_nil)) (pa_cons (pe_cl c__law_one hr (by decide) rfl (pa_cons (pv 0) (pa_cons (pe_lst (pa_cons pe_int (pa_cons pe_int (pa_cons pe_int (pa_cons pe_int pa_nil))))) pa_nil))) pa_nil))))) (pg_tup rfl (pgs_cons (pg_name (i := 5) nd rfl (Or.inl rfl)) (pgs_cons (pg_name (i := 6) nd rfl (Or.inl rfl)) (pgs_cons (pg_name (i := 7) nd rfl (Or.inl rfl)) (pgs_cons (pg_name (i := 8) nd rfl (Or.inl rfl)) pgs_nil))))))
    (pss_cons (ps_set (i := 9) nd rfl (Or.inl rfl) (pe_slice sl_2 (pe_cl c__law_mixed hr (by decide) rfl (pa_cons (pv 0) (pa_cons (pe_listRg rfl rfl b_list (prg_1 rfl b_range (pe_ix ix_seq (pv 1) pe_int (fun _ _ => rfl)))) pa_nil))) po_none (po_some (pe_op op_add3 pe_int (pe_cl c__law_take hr (by decide) rfl (pa_cons (pv 0) (pa_cons (pe_callB (call_max23 rfl) rfl b_max PyProof.Rows.boot_max (pa_cons pe_int (pa_cons (pe_ix ix_seq (pv 1) pe_int (fun _ _ => rfl)) pa_nil))) pa_nil)))))))
    (pss_cons (ps_for PassesOwn.never rfl (pi_range1 rfl b_range (pa_cons (pe_ifExp (pt_cmpR op_gt (pe_ix ix_seq (pv 1) pe_int (fun _ _ => rfl)) pe_int (nomark _)) (pv 3) pe_int) pa_nil)) (pg_name (i := 10) nd rfl (Or.inl rfl)) (pss_cons (ps_set (i := 11) nd rfl (Or.inl rfl) (pe_ifExp (pt_cmpR op_gt (pe_cl c__law_take hr (by decide) rfl (pa_cons (pv 0) (pa_cons pe_int pa_nil))) pe_int (nomark _)) (pe_cl c__law_one hr (by decide) rfl (pa_cons (pv 0) (pa_cons (pv 9) pa_nil))) (pe_cl c__law_take hr (by decide) rfl (pa_cons (pv 0) (pa_cons (pe_ix ix_seq (pv 1) pe_int (fun _ _ => rfl)) pa_nil)))))
    (pss_cons (ps_set (i := 12) nd rfl (Or.inl rfl) (pe_tupF (pa_cons pe_str (pa_cons (pv 11) (pa_cons (pe_tupF pa_nil) pa_nil)))))
    (pss_cons (ps_if (PW.pt (pw_or (pt_cmpR (op_eqD hu) (pv 4) pe_int (nomark _)) (pw_or1 (pt_cmpR op_gt (pe_cl c__law_take hr (by decide) rfl (pa_cons (pv 0) (pa_cons (pv 4) pa_nil))) pe_int (nomark _))))) (pss_one (ps_set (i := 12) nd rfl (Or.inl rfl) (pe_cl c__law_drawn_move hr (by decide) rfl (pa_cons (pv 0) (pa_cons (pv 1) (pa_cons (pe_ix ix_seq (pv 7) (pe_un un_neg pe_int) (fun _ _ => rfl)) (pa_cons (pv 11) (pa_cons (pv 8) pa_nil)))))))) pss_nil)
    (pss_cons (ps_expr (pe_bm PySem.F.plainAttrs_list PySem.F.slot_list_append PySem.F.type_list_append mt_append (pv 5) (pa_cons (pv 12) pa_nil)))
    (pss_cons (ps_expr (pe_bm PySem.F.plainAttrs_list PySem.F.slot_list_append PySem.F.type_list_append mt_append (pv 6) (pa_cons (pe_tupF (pa_cons (pe_ix ix_seq (pv 12) pe_int (fun _ _ => rfl)) (pa_cons (pv 11) (pa_cons (pe_ix ix_seq (pe_ix ix_seq (pv 7) (pe_un un_neg pe_int) (fun _ _ => rfl)) (pv 11) (fun _ _ => rfl)) pa_nil)))) pa_nil)))
    (pss_one (ps_expr (pe_bm PySem.F.plainAttrs_list PySem.F.slot_list_append PySem.F.type_list_append mt_append (pv 7) (pa_cons (pe_cl c__law_done hr (by decide) rfl (pa_cons (pv 1) (pa_cons (pe_ix ix_seq (pv 7) (pe_un un_neg pe_int) (fun _ _ => rfl)) (pa_cons (pv 12) pa_nil)))) pa_nil))))))))))
    (pss_one (ps_ret (pe_tupF (pa_cons (pe_callTy call_tupleF rfl b_tuple PyProof.Rows.boot_tuple (pa_cons (pv 5) pa_nil)) (pa_cons (pe_callTy call_tupleF rfl b_tuple PyProof.Rows.boot_tuple (pa_cons (pv 6) pa_nil)) (pa_cons (pv 7) pa_nil)))))))))
abbrev s__law_story : Stmt := top 37
theorem sc__law_story : FnScope n__law_story p__law_story (defScope s__law_story) := ⟨rfl, rfl, rfl, by decide +kernel, rfl, by decide +kernel, by decide +kernel⟩
theorem w__law_story {P : Program} {w : World} {K : PySem.W.Frag} {mg : Str → Option Value} {base : Heap} {f : Addr} {cdv : Value} {A : Around} {outer : List Env} {s : Shared} {H : Hp} {E : XK} {f__law_full_state f__law_run : Sp}
    (hr : Room 5 (A.deeper (envOfC "_law_story" (defScope s__law_story) s.heap.objs.size f cdv))) (c__law_full_state : Cl P w K mg base 4 "_law_full_state" f__law_full_state) (c__law_run : Cl P w K mg base 5 "_law_run" f__law_run)  :
    PSs (cxOf CX0 P w K mg base n__law_story "_law_story" (defScope s__law_story) f cdv A outer s H E).nox (defBody s__law_story) (t__law_story K f__law_full_state f__law_run) := by
  have hu := hr.units
  have hv : (A.deeper (envOfC "_law_story" (defScope s__law_story) s.heap.objs.size f cdv)).units + 65 < cLine := by have := hr.un; omega
  have nd := sc__law_story.nd
  unfold t__law_story
  exact (pss_one (ps_ret (pe_cl c__law_run hr (by decide) rfl (pa_cons (pv 0) (pa_cons (pv 1) (pa_cons (pe_ifExp (pt_cmpR op_isN (pv 2) pe_non (nomark _)) (pe_cl c__law_full_state hr (by decide) rfl (pa_cons (pv 0) (pa_cons (pv 1) pa_nil))) (pv 2)) (pa_cons (pv 3) (pa_cons (pv 4) pa_nil))))))))
abbrev s__law_all_states : Stmt := top 38
theorem sc__law_all_states : FnScope n__law_all_states p__law_all_states (defScope s__law_all_states) := ⟨rfl, rfl, rfl, by decide +kernel, rfl, by decide +kernel, by decide +kernel⟩
theorem w__law_all_states {P : Program} {w : World} {K : PySem.W.Frag} {mg : Str → Option Value} {base : Heap} {f : Addr} {cdv : Value} {A : Around} {outer : List Env} {s : Shared} {H : Hp} {E : XK}
    (hr : Room 1 (A.deeper (envOfC "_law_all_states" (defScope s__law_all_states) s.heap.objs.size f cdv)))  (b_range : mg "range" = none) (b_enumerate : mg "enumerate" = none) (b_len : mg "len" = none) :
    PSs (cxOf CX0 P w K mg base n__law_all_states "_law_all_states" (defScope s__law_all_states) f cdv A outer s H E).nox (defBody s__law_all_states) (t__law_all_states K ) := by
  have hu := hr.units
  have hv : (A.deeper (envOfC "_law_all_states" (defScope s__law_all_states) s.heap.objs.size f cdv)).units + 65 < cLine := by have := hr.un; omega
  have nd := sc__law_all_states.nd
  unfold t__law_all_states
  exact (pss_cons (ps_par (i := 1) (j := 2) rfl nd rfl rfl (by decide) rfl rfl (pa_cons (pe_lst (pa_cons (pe_tupF pa_nil) pa_nil)) (pa_cons (pe_callB call_len_seq rfl b_len PySem.boot_len (pa_cons (pe_ix ix_seq (pv 0) pe_int (fun _ _ => rfl)) pa_nil)) pa_nil)) rfl)
    (pss_cons (ps_for PassesOwn.never rfl (pi_range1 rfl b_range (pa_cons (pe_ix ix_seq (pv 0) pe_int (fun _ _ => rfl)) pa_nil)) (pg_name (i := 3) nd rfl (Or.inl rfl)) (pss_cons (ps_set (i := 4) nd rfl (Or.inl rfl) (pe_lst pa_nil))
    (pss_cons (ps_for PassesOwn.never rfl (pi_seq (pv 1)) (pg_name (i := 5) nd rfl (Or.inr rfl)) (pss_cons (ps_expr (pe_bm PySem.F.plainAttrs_list PySem.F.slot_list_extend PySem.F.type_list_extend mt_extend (pv 4) (pa_cons (pe_lc (own := [("_law_floor", 6), ("_law_rooms", 7)]) (g := (gTup K 2 (gCons (gName 6) (gCons (gName 7) gNil)))) (tt := (tTest (tOp (rI0 fun i j => .bl (decide (i < j))) (tTM rTCnt (tVar 5) (tCons (tVar 6) tNil)) (tVar 7)))) rfl nd (pi_enu1 rfl b_enumerate (pa_cons (pe_ix ix_seq (pv 0) pe_int (fun _ _ => rfl)) pa_nil)) (blkOk_by (N := n__law_all_states) (sc := defScope s__law_all_states) (by decide +kernel)) (fun _ _ _ _ _ => (pg_tup rfl (pgs_cons (pg_name (i := 6) nd rfl (by first | exact Or.inl rfl | exact Or.inr rfl)) (pgs_cons (pg_name (i := 7) nd rfl (by first | exact Or.inl rfl | exact Or.inr rfl)) pgs_nil)))) (fun _ _ _ _ _ => pts_one (pt_cmpR op_lt (pe_tm PySem.F.slot_tuple_count PySem.F.type_tuple_count mt_tcnt (pv 5) (pa_cons (pv 6) pa_nil)) (pv 7) (nomark _))) (fun _ _ _ _ _ => (pe_op op_add3 (pv 5) (pe_tupF (pa_cons (pv 6) pa_nil))))) pa_nil)))
    (pss_one (ps_expr (pe_bm PySem.F.plainAttrs_list PySem.F.slot_list_append PySem.F.type_list_append mt_append (pv 4) (pa_cons (pe_op op_add3 (pv 5) (pe_tupF (pa_cons (pv 2) pa_nil))) pa_nil))))))
    (pss_one (ps_set (i := 1) nd rfl (Or.inl rfl) (pv 4))))))
    (pss_one (ps_ret (pv 1)))))
abbrev s__law_tightened : Stmt := top 40
theorem sc__law_tightened : FnScope n__law_tightened p__law_tightened (defScope s__law_tightened) := ⟨rfl, rfl, rfl, by decide +kernel, rfl, by decide +kernel, by decide +kernel⟩
theorem w__law_tightened {P : Program} {w : World} {K : PySem.W.Frag} {mg : Str → Option Value} {base : Heap} {f : Addr} {cdv : Value} {A : Around} {outer : List Env} {s : Shared} {H : Hp} {E : XK}
    (hr : Room 1 (A.deeper (envOfC "_law_tightened" (defScope s__law_tightened) s.heap.objs.size f cdv)))  (b_tuple : mg "tuple" = none) (b_zip : mg "zip" = none) (b_enumerate : mg "enumerate" = none) (b_min : mg "min" = none) (b_range : mg "range" = none) (b_max : mg "max" = none) (b_len : mg "len" = none) :
    PSs (cxOf CX0 P w K mg base n__law_tightened "_law_tightened" (defScope s__law_tightened) f cdv A outer s H E).nox (defBody s__law_tightened) (t__law_tightened K ) := by
  have hu := hr.units
  have hv : (A.deeper (envOfC "_law_tightened" (defScope s__law_tightened) s.heap.objs.size f cdv)).units + 65 < cLine := by have := hr.un; omega
  have nd := sc__law_tightened.nd
  unfold t__law_tightened
  exact (pss_cons (FK.ps_par3 (i := 2) (j := 3) (k := 4) rfl nd rfl rfl rfl rfl rfl rfl (pa_cons (pe_callB call_len_seq rfl b_len PySem.boot_len (pa_cons (pv 0) pa_nil)) (pa_cons (pe_op op_sub (pe_callB call_len_seq rfl b_len PySem.boot_len (pa_cons (pe_ix ix_seq (pv 0) pe_int (fun _ _ => rfl)) pa_nil)) pe_int) (pa_cons (pe_lst pa_nil) pa_nil))) rfl)
    (pss_cons (ps_if (pt_cmpR (op_neD hu) (pe_lc (own := [("_law_one_here", 5), ("_law_other", 13)]) (g := (gTup K 2 (gCons (gName 5) (gCons (gName 13) gNil)))) (tt := (tTest (tOp (rI0 fun i j => .bl (decide (i < j))) (tVar 13) (tVar 5)))) rfl nd (pi_zp rfl b_zip (pa_cons (pe_op op_add3 (pe_tupF (pa_cons pe_int pa_nil)) (pv 1)) (pa_cons (pv 1) pa_nil))) (blkOk_by (N := n__law_tightened) (sc := defScope s__law_tightened) (by decide +kernel)) (fun _ _ _ _ _ => (pg_tup rfl (pgs_cons (pg_name (i := 5) nd rfl (by first | exact Or.inl rfl | exact Or.inr rfl)) (pgs_cons (pg_name (i := 13) nd rfl (by first | exact Or.inl rfl | exact Or.inr rfl)) pgs_nil)))) (fun _ _ _ _ _ => pts_one (pt_cmpR op_lt (pv 13) (pv 5) (nomark _))) (fun _ _ _ _ _ => pe_int)) (pe_lst pa_nil) (nomark _)) (pss_one (ps_ret pe_non)) pss_nil)
    (pss_cons (ps_for PassesOwn.never rfl (pi_zp rfl b_zip (pa_cons (pv 0) (pa_cons (pv 1) pa_nil))) (pg_tup rfl (pgs_cons (pg_name (i := 6) nd rfl (Or.inl rfl)) (pgs_cons (pg_name (i := 7) nd rfl (Or.inr rfl)) pgs_nil))) (pss_cons (ps_par (i := 8) (j := 9) rfl nd rfl rfl (by decide) rfl rfl (pa_cons (pe_lst pa_nil) (pa_cons pe_int pa_nil)) rfl)
    (pss_cons (ps_for PassesOwn.never rfl (pi_enu1 rfl b_enumerate (pa_cons (pv 6) pa_nil)) (pg_tup rfl (pgs_cons (pg_name (i := 10) nd rfl (Or.inl rfl)) (pgs_cons (pg_name (i := 5) nd rfl (Or.inl rfl)) pgs_nil))) (pss_cons (ps_set (i := 9) nd rfl (Or.inl rfl) (pe_callB (call_max23 rfl) rfl b_max PyProof.Rows.boot_max (pa_cons (pv 9) (pa_cons (pv 5) (pa_cons (pe_op op_add3 (pe_op op_sub (pv 7) (pv 3)) (pv 10)) pa_nil)))))
    (pss_one (ps_expr (pe_bm PySem.F.plainAttrs_list PySem.F.slot_list_append PySem.F.type_list_append mt_append (pv 8) (pa_cons (pv 9) pa_nil))))))
    (pss_cons (ps_for PassesOwn.never rfl (pi_range3 rfl b_range (pa_cons (pe_op op_sub (pv 3) pe_int) (pa_cons (pe_un un_neg pe_int) (pa_cons (pe_un un_neg pe_int) pa_nil)))) (pg_name (i := 10) nd rfl (Or.inl rfl)) (pss_one (ps_asg (pe_callB (call_max23 rfl) rfl b_max PyProof.Rows.boot_max (pa_cons (pe_ix ix_seq (pv 8) (pv 10) (fun _ _ => rfl)) (pa_cons (pe_op op_sub (pe_ix ix_seq (pv 8) (pe_op op_add3 (pv 10) pe_int) (fun _ _ => rfl)) pe_int) pa_nil))) (pg_sub (pv 8) (pv 10) set_list))))
    (pss_one (ps_expr (pe_bm PySem.F.plainAttrs_list PySem.F.slot_list_append PySem.F.type_list_append mt_append (pv 4) (pa_cons (pv 8) pa_nil))))))))
    (pss_cons (ps_for PassesOwn.never rfl (pi_range2 rfl b_range (pa_cons pe_int (pa_cons (pv 2) pa_nil))) (pg_name (i := 11) nd rfl (Or.inl rfl)) (pss_one (ps_asg (pe_lc (own := [("_law_one_here", 5), ("_law_other", 13)]) (g := (gTup K 2 (gCons (gName 5) (gCons (gName 13) gNil)))) (tt := tYes) rfl nd (pi_zp rfl b_zip (pa_cons (pe_ix ix_seq (pv 4) (pv 11) (fun _ _ => rfl)) (pa_cons (pe_ix ix_seq (pv 4) (pe_op op_sub (pv 11) pe_int) (fun _ _ => rfl)) pa_nil))) (blkOk_by (N := n__law_tightened) (sc := defScope s__law_tightened) (by decide +kernel)) (fun _ _ _ _ _ => (pg_tup rfl (pgs_cons (pg_name (i := 5) nd rfl (by first | exact Or.inl rfl | exact Or.inr rfl)) (pgs_cons (pg_name (i := 13) nd rfl (by first | exact Or.inl rfl | exact Or.inr rfl)) pgs_nil)))) (fun _ _ _ _ _ => pts_nil) (fun _ _ _ _ _ => (pe_callB (call_max23 rfl) rfl b_max PyProof.Rows.boot_max (pa_cons (pv 5) (pa_cons (pv 13) pa_nil))))) (pg_sub (pv 4) (pv 11) set_list))))
    (pss_cons (ps_for PassesOwn.never rfl (pi_range3 rfl b_range (pa_cons (pe_op op_sub (pv 2) pe_int) (pa_cons (pe_un un_neg pe_int) (pa_cons (pe_un un_neg pe_int) pa_nil)))) (pg_name (i := 11) nd rfl (Or.inl rfl)) (pss_cons (ps_set (i := 12) nd rfl (Or.inr rfl) (pe_op op_sub (pe_ix ix_seq (pv 1) (pe_op op_add3 (pv 11) pe_int) (fun _ _ => rfl)) (pe_ix ix_seq (pv 1) (pv 11) (fun _ _ => rfl))))
    (pss_one (ps_asg (pe_lc (own := [("_law_one_here", 5), ("_law_other", 13)]) (g := (gTup K 2 (gCons (gName 5) (gCons (gName 13) gNil)))) (tt := tYes) rfl nd (pi_zp rfl b_zip (pa_cons (pe_ix ix_seq (pv 4) (pv 11) (fun _ _ => rfl)) (pa_cons (pe_ix ix_seq (pv 4) (pe_op op_add3 (pv 11) pe_int) (fun _ _ => rfl)) pa_nil))) (blkOk_by (N := n__law_tightened) (sc := defScope s__law_tightened) (by decide +kernel)) (fun _ _ _ _ _ => (pg_tup rfl (pgs_cons (pg_name (i := 5) nd rfl (by first | exact Or.inl rfl | exact Or.inr rfl)) (pgs_cons (pg_name (i := 13) nd rfl (by first | exact Or.inl rfl | exact Or.inr rfl)) pgs_nil)))) (fun _ _ _ _ _ => pts_nil) (fun _ _ _ _ _ => (pe_callB (call_max23 rfl) rfl b_max PyProof.Rows.boot_max (pa_cons (pv 5) (pa_cons (pe_op op_sub (pv 13) (pv 12)) pa_nil))))) (pg_sub (pv 4) (pv 11) set_list)))))
    (pss_cons (ps_for PassesOwn.never rfl (pi_zp rfl b_zip (pa_cons (pv 4) (pa_cons (pv 1) pa_nil))) (pg_tup rfl (pgs_cons (pg_name (i := 8) nd rfl (Or.inl rfl)) (pgs_cons (pg_name (i := 7) nd rfl (Or.inr rfl)) pgs_nil))) (pss_one (ps_if (pt_cmpR (op_neD hu) (pe_lc (own := [("_law_count", 10), ("_law_one_here", 5)]) (g := (gTup K 2 (gCons (gName 10) (gCons (gName 5) gNil)))) (tt := (tTest (tOp (rI0 fun i j => .bl (decide (j < i))) (tVar 5) (tCB (rMin23) (tCons (tVar 10) (tCons (tVar 7) tNil)))))) rfl nd (pi_enu1 rfl b_enumerate (pa_cons (pv 8) pa_nil)) (blkOk_by (N := n__law_tightened) (sc := defScope s__law_tightened) (by decide +kernel)) (fun _ _ _ _ _ => (pg_tup rfl (pgs_cons (pg_name (i := 10) nd rfl (by first | exact Or.inl rfl | exact Or.inr rfl)) (pgs_cons (pg_name (i := 5) nd rfl (by first | exact Or.inl rfl | exact Or.inr rfl)) pgs_nil)))) (fun _ _ _ _ _ => pts_one (pt_cmpR op_gt (pv 5) (pe_callB (call_min23 rfl) rfl b_min PyProof.Rows.boot_min (pa_cons (pv 10) (pa_cons (pv 7) pa_nil))) (nomark _))) (fun _ _ _ _ _ => pe_int)) (pe_lst pa_nil) (nomark _)) (pss_one (ps_ret pe_non)) pss_nil)))
    (pss_one (ps_ret (pe_callTy call_tupleF rfl b_tuple PyProof.Rows.boot_tuple (pa_cons (pe_lc (own := [("_law_word", 8)]) (g := (gName 8)) (tt := tYes) rfl nd (pi_seq (pv 4)) (blkOk_by (N := n__law_tightened) (sc := defScope s__law_tightened) (by decide +kernel)) (fun _ _ _ _ _ => (pg_name (i := 8) nd rfl (by first | exact Or.inl rfl | exact Or.inr rfl))) (fun _ _ _ _ _ => pts_nil) (fun _ _ _ _ _ => (pe_callTy call_tupleF rfl b_tuple PyProof.Rows.boot_tuple (pa_cons (pv 8) pa_nil)))) pa_nil))))))))))
abbrev s__law_known_sizes : Stmt := top 41
theorem sc__law_known_sizes : FnScope n__law_known_sizes p__law_known_sizes (defScope s__law_known_sizes) := ⟨rfl, rfl, rfl, by decide +kernel, rfl, by decide +kernel, by decide +kernel⟩
theorem w__law_known_sizes {P : Program} {w : World} {K : PySem.W.Frag} {mg : Str → Option Value} {base : Heap} {f : Addr} {cdv : Value} {A : Around} {outer : List Env} {s : Shared} {H : Hp} {E : XK}
    (hr : Room 1 (A.deeper (envOfC "_law_known_sizes" (defScope s__law_known_sizes) s.heap.objs.size f cdv)))  (b_tuple : mg "tuple" = none) :
    PSs (cxOf CX0 P w K mg base n__law_known_sizes "_law_known_sizes" (defScope s__law_known_sizes) f cdv A outer s H E).nox (defBody s__law_known_sizes) (t__law_known_sizes K ) := by
  have hu := hr.units
  have hv : (A.deeper (envOfC "_law_known_sizes" (defScope s__law_known_sizes) s.heap.objs.size f cdv)).units + 65 < cLine := by have := hr.un; omega
  have nd := sc__law_known_sizes.nd
  unfold t__law_known_sizes
  exact (pss_one (ps_ret (pe_callTy call_tupleF rfl b_tuple PyProof.Rows.boot_tuple (pa_cons (pe_lc (own := [("_law_word", 1)]) (g := (gName 1)) (tt := tYes) rfl nd (pi_seq (pe_ix ix_seq (pv 0) pe_int (fun _ _ => rfl))) (blkOk_by (N := n__law_known_sizes) (sc := defScope s__law_known_sizes) (by decide +kernel)) (fun _ _ _ _ _ => (pg_name (i := 1) nd rfl (by first | exact Or.inl rfl | exact Or.inr rfl))) (fun _ _ _ _ _ => pts_nil) (fun _ _ _ _ _ => (pe_ix ix_seq (pv 1) (pe_un un_neg pe_int) (fun _ _ => rfl)))) pa_nil))))
abbrev s__law_led : Stmt := top 42
theorem sc__law_led : FnScope n__law_led p__law_led (defScope s__law_led) := ⟨rfl, rfl, rfl, by decide +kernel, rfl, by decide +kernel, by decide +kernel⟩
theorem w__law_led {P : Program} {w : World} {K : PySem.W.Frag} {mg : Str → Option Value} {base : Heap} {f : Addr} {cdv : Value} {A : Around} {outer : List Env} {s : Shared} {H : Hp} {E : XK} {f__law_tightened f__law_known_sizes : Sp}
    (hr : Room 2 (A.deeper (envOfC "_law_led" (defScope s__law_led) s.heap.objs.size f cdv))) (c__law_tightened : Cl P w K mg base 2 "_law_tightened" f__law_tightened) (c__law_known_sizes : Cl P w K mg base 2 "_law_known_sizes" f__law_known_sizes) (b_tuple : mg "tuple" = none) (b_enumerate : mg "enumerate" = none) (b_int : mg "int" = none) (b_max : mg "max" = none) (b_sum : mg "sum" = none) (b_list : mg "list" = none) :
    PSs (cxOf CX0 P w K mg base n__law_led "_law_led" (defScope s__law_led) f cdv A outer s H E).nox (defBody s__law_led) (t__law_led K f__law_tightened f__law_known_sizes) := by
  have hu := hr.units
  have hv : (A.deeper (envOfC "_law_led" (defScope s__law_led) s.heap.objs.size f cdv)).units + 65 < cLine := by have := hr.un; omega
  have nd := sc__law_led.nd
  unfold t__law_led
  exact (pss_cons (ps_asg (pv 1) (pg_tup rfl (pgs_cons (pg_name (i := 3) nd rfl (Or.inl rfl)) (pgs_cons (pg_name (i := 4) nd rfl (Or.inl rfl)) pgs_nil))))
    (pss_cons (ps_asg (pv 2) (pg_tup rfl (pgs_cons (pg_name (i := 5) nd rfl (Or.inl rfl)) (pgs_cons (pg_name (i := 6) nd rfl (Or.inl rfl)) (pgs_cons (pg_name (i := 7) nd rfl (Or.inl rfl)) pgs_nil)))))
    (pss_cons (FK.ps_par3 (i := 8) (j := 9) (k := 10) rfl nd rfl rfl rfl rfl rfl rfl (pa_cons (pe_tm PySem.F.slot_tuple_index PySem.F.type_tuple_index mt_tidx (pv 3) (pa_cons (pv 6) pa_nil)) (pa_cons (pe_callTy call_list_of rfl b_list PyProof.Rows.boot_list (pa_cons (pe_cl c__law_known_sizes hr (by decide) rfl (pa_cons (pv 1) pa_nil)) pa_nil)) (pa_cons (pe_lst pa_nil) pa_nil))) rfl)
    (pss_cons (ps_for PassesOwn.never rfl (pi_enu1 rfl b_enumerate (pa_cons (pv 4) pa_nil)) (pg_tup rfl (pgs_cons (pg_name (i := 11) nd rfl (Or.inl rfl)) (pgs_cons (pg_name (i := 12) nd rfl (Or.inl rfl)) pgs_nil))) (pss_cons (ps_set (i := 13) nd rfl (Or.inr rfl) (pe_callTy call_int1 rfl b_int PyProof.Rows.boot_int (pa_cons (pe_cmpR op_ge (pv 11) (pv 7) (nomark _)) pa_nil)))
    (pss_cons (ps_setLc (i := 14) (own := [("_law_one_here", 19)]) (g := (gName 19)) (tt := tYes) rfl nd rfl rfl (sw_true rfl rfl rfl (by decide +kernel)) (pi_seq (pe_slice sl_2 (pv 12) (po_some (pe_op op_add3 (pv 8) pe_int)) po_none)) (blkOk_by (N := n__law_led) (sc := defScope s__law_led) (by decide +kernel)) (fun _ _ _ _ _ => (pg_name (i := 19) nd rfl (by first | exact Or.inl rfl | exact Or.inr rfl))) (fun _ _ _ _ _ => pts_nil) (fun _ _ _ _ _ => (pe_op op_sub (pv 19) (pv 13))))
    (pss_cons (ps_expr (pe_bm PySem.F.plainAttrs_list PySem.F.slot_list_append PySem.F.type_list_append mt_append (pv 10) (pa_cons (pe_callTy call_tupleF rfl b_tuple PyProof.Rows.boot_tuple (pa_cons (pe_op op_add3 (pe_op op_add3 (pe_callTy call_list_of rfl b_list PyProof.Rows.boot_list (pa_cons (pe_slice sl_2 (pv 12) po_none (po_some (pv 8))) pa_nil)) (pe_lst (pa_cons (pe_callB (call_max23 rfl) rfl b_max PyProof.Rows.boot_max (pa_cons (pe_ix ix_seq (pv 12) (pv 8) (fun _ _ => rfl)) (pa_cons (pe_ix ix_seq (pv 14) pe_int (fun _ _ => rfl)) pa_nil))) pa_nil))) (pe_slice sl_2 (pv 14) (po_some pe_int) po_none)) pa_nil)) pa_nil)))
    (pss_one (ps_augS (pv 9) (pv 11) get_list (pv 13) ip_sub set_list))))))
    (pss_cons (ps_set (i := 15) nd rfl (Or.inl rfl) (pe_cl c__law_tightened hr (by decide) rfl (pa_cons (pe_callTy call_tupleF rfl b_tuple PyProof.Rows.boot_tuple (pa_cons (pv 10) pa_nil)) (pa_cons (pe_callTy call_tupleF rfl b_tuple PyProof.Rows.boot_tuple (pa_cons (pv 9) pa_nil)) pa_nil))))
    (pss_cons (ps_if (pt_cmpR op_isN (pv 15) pe_non (nomark _)) (pss_one (ps_ret pe_non)) pss_nil)
    (pss_cons (ps_set (i := 16) nd rfl (Or.inl rfl) (pe_op op_add3 (pe_slice sl_2 (pv 3) po_none (po_some (pv 8))) (pe_slice sl_2 (pv 3) (po_some (pe_op op_add3 (pv 8) pe_int)) po_none)))
    (pss_cons (ps_if (pt_cmpR (op_eqD hu) (pv 5) pe_str (nomark _)) (pss_one (ps_ret (pe_tupF (pa_cons (pe_op op_add3 (pv 16) (pe_tupF (pa_cons (pv 6) pa_nil))) (pa_cons (pe_callTy call_tupleF rfl b_tuple PyProof.Rows.boot_tuple (pa_cons (pe_lc (own := [("_law_row", 12)]) (g := (gName 12)) (tt := tYes) rfl nd (pi_seq (pv 15)) (blkOk_by (N := n__law_led) (sc := defScope s__law_led) (by decide +kernel)) (fun _ _ _ _ _ => (pg_name (i := 12) nd rfl (by first | exact Or.inl rfl | exact Or.inr rfl))) (fun _ _ _ _ _ => pts_nil) (fun _ _ _ _ _ => (pe_op op_add3 (pv 12) (pe_slice sl_2 (pv 12) (po_some (pe_un un_neg pe_int)) po_none)))) pa_nil)) pa_nil))))) pss_nil)
    (pss_cons (ps_set (i := 17) nd rfl (Or.inl rfl) (pe_lst pa_nil))
    (pss_cons (ps_for PassesOwn.never rfl (pi_enu1 rfl b_enumerate (pa_cons (pv 15) pa_nil)) (pg_tup rfl (pgs_cons (pg_name (i := 11) nd rfl (Or.inl rfl)) (pgs_cons (pg_name (i := 12) nd rfl (Or.inl rfl)) pgs_nil))) (pss_cons (ps_set (i := 18) nd rfl (Or.inr rfl) (pe_and (pe_cmpR op_lt (pv 11) (pv 7) (nomark _)) (pe_one (pe_cmpR (op_eqD hu) (pe_ix ix_seq (pv 9) (pv 11) (fun _ _ => rfl)) (pe_callB (cr_sum2 rfl) rfl b_sum PyProof.Rows.boot_sum (pa_cons (pe_slice sl_2 (pe_ix ix_seq (pv 0) pe_int (fun _ _ => rfl)) po_none (po_some (pe_op op_add3 (pv 11) pe_int))) pa_nil)) (nomark _)))))
    (pss_one (ps_expr (pe_bm PySem.F.plainAttrs_list PySem.F.slot_list_append PySem.F.type_list_append mt_append (pv 17) (pa_cons (pe_op op_add3 (pe_tupF (pa_cons pe_int pa_nil)) (pe_callTy call_tupleF rfl b_tuple PyProof.Rows.boot_tuple (pa_cons (pe_lc (own := [("_law_one_here", 19)]) (g := (gName 19)) (tt := tYes) rfl nd (pi_seq (pv 12)) (blkOk_by (N := n__law_led) (sc := defScope s__law_led) (by decide +kernel)) (fun _ _ _ _ _ => (pg_name (i := 19) nd rfl (by first | exact Or.inl rfl | exact Or.inr rfl))) (fun _ _ _ _ _ => pts_nil) (fun _ _ _ _ _ => (pe_op op_add3 (pe_callB (call_max23 rfl) rfl b_max PyProof.Rows.boot_max (pa_cons pe_int (pa_cons (pe_op op_sub (pv 19) (pe_callTy call_int1 rfl b_int PyProof.Rows.boot_int (pa_cons (pv 18) pa_nil))) pa_nil))) pe_int))) pa_nil))) pa_nil))))))
    (pss_one (ps_ret (pe_tupF (pa_cons (pe_op op_add3 (pe_tupF (pa_cons (pv 6) pa_nil)) (pv 16)) (pa_cons (pe_callTy call_tupleF rfl b_tuple PyProof.Rows.boot_tuple (pa_cons (pv 17) pa_nil)) pa_nil)))))))))))))))
abbrev s__law_led_by : Stmt := top 43
theorem sc__law_led_by : FnScope n__law_led_by p__law_led_by (defScope s__law_led_by) := ⟨rfl, rfl, rfl, by decide +kernel, rfl, by decide +kernel, by decide +kernel⟩
theorem w__law_led_by {P : Program} {w : World} {K : PySem.W.Frag} {mg : Str → Option Value} {base : Heap} {f : Addr} {cdv : Value} {A : Around} {outer : List Env} {s : Shared} {H : Hp} {E : XK} {f__law_led : Sp}
    (hr : Room 3 (A.deeper (envOfC "_law_led_by" (defScope s__law_led_by) s.heap.objs.size f cdv))) (c__law_led : Cl P w K mg base 3 "_law_led" f__law_led) (b_enumerate : mg "enumerate" = none) :
    PSs (cxOf CX0 P w K mg base n__law_led_by "_law_led_by" (defScope s__law_led_by) f cdv A outer s H E).nox (defBody s__law_led_by) (t__law_led_by K f__law_led) := by
  have hu := hr.units
  have hv : (A.deeper (envOfC "_law_led_by" (defScope s__law_led_by) s.heap.objs.size f cdv)).units + 65 < cLine := by have := hr.un; omega
  have nd := sc__law_led_by.nd
  unfold t__law_led_by
  exact (pss_cons (ps_for PassesOwn.never rfl (pi_enu1 rfl b_enumerate (pa_cons (pv 2) pa_nil)) (pg_tup rfl (pgs_cons (pg_name (i := 3) nd rfl (Or.inl rfl)) (pgs_cons (pg_name (i := 4) nd rfl (Or.inl rfl)) pgs_nil))) (pss_cons (ps_set (i := 5) nd rfl (Or.inl rfl) (pe_cl c__law_led hr (by decide) rfl (pa_cons (pv 0) (pa_cons (pv 1) (pa_cons (pv 4) pa_nil)))))
    (pss_cons (ps_if (pt_cmpR op_isN (pv 5) pe_non (nomark _)) (pss_one (ps_ret (pe_tupF (pa_cons (pv 1) (pa_cons (pv 3) pa_nil))))) pss_nil)
    (pss_one (ps_set (i := 1) nd rfl (Or.inl rfl) (pv 5))))))
    (pss_one (ps_ret (pe_tupF (pa_cons (pv 1) (pa_cons pe_non pa_nil))))))
abbrev s__law_fits : Stmt := top 44
theorem sc__law_fits : FnScope n__law_fits p__law_fits (defScope s__law_fits) := ⟨rfl, rfl, rfl, by decide +kernel, rfl, by decide +kernel, by decide +kernel⟩
theorem w__law_fits {P : Program} {w : World} {K : PySem.W.Frag} {mg : Str → Option Value} {base : Heap} {f : Addr} {cdv : Value} {A : Around} {outer : List Env} {s : Shared} {H : Hp} {E : XK} {f__law_sizes f__law_known_sizes : Sp}
    (hr : Room 3 (A.deeper (envOfC "_law_fits" (defScope s__law_fits) s.heap.objs.size f cdv))) (c__law_sizes : Cl P w K mg base 3 "_law_sizes" f__law_sizes) (c__law_known_sizes : Cl P w K mg base 2 "_law_known_sizes" f__law_known_sizes) (b_enumerate : mg "enumerate" = none) (b_int : mg "int" = none) :
    PSs (cxOf CX0 P w K mg base n__law_fits "_law_fits" (defScope s__law_fits) f cdv A outer s H E).nox (defBody s__law_fits) (t__law_fits K f__law_sizes f__law_known_sizes) := by
  have hu := hr.units
  have hv : (A.deeper (envOfC "_law_fits" (defScope s__law_fits) s.heap.objs.size f cdv)).units + 65 < cLine := by have := hr.un; omega
  have nd := sc__law_fits.nd
  unfold t__law_fits
  exact (pss_cons (ps_if (pt_cmpR (op_neD hu) (pe_cl c__law_sizes hr (by decide) rfl (pa_cons (pv 0) (pa_cons (pv 2) pa_nil))) (pe_cl c__law_known_sizes hr (by decide) rfl (pa_cons (pv 1) pa_nil)) (nomark _)) (pss_one (ps_ret pe_bl)) pss_nil)
    (pss_cons (ps_for PassesOwn.never rfl (pi_enu1 rfl b_enumerate (pa_cons (pe_ix ix_seq (pv 1) pe_int (fun _ _ => rfl)) pa_nil)) (pg_tup rfl (pgs_cons (pg_name (i := 3) nd rfl (Or.inl rfl)) (pgs_cons (pg_name (i := 4) nd rfl (Or.inl rfl)) pgs_nil))) (pss_cons (ps_set (i := 5) nd rfl (Or.inl rfl) pe_int)
    (pss_one (ps_for PassesOwn.never rfl (pi_enu1 rfl b_enumerate (pa_cons (pe_ix ix_seq (pv 1) pe_int (fun _ _ => rfl)) pa_nil)) (pg_tup rfl (pgs_cons (pg_name (i := 6) nd rfl (Or.inl rfl)) (pgs_cons (pg_name (i := 7) nd rfl (Or.inl rfl)) pgs_nil))) (pss_cons (ps_aug (i := 5) nd rfl (Or.inl rfl) (pe_callTy call_int1 rfl b_int PyProof.Rows.boot_int (pa_cons (pe_cmpR op_le (pe_ix ix_seq (pv 2) (pv 7) (fun _ _ => rfl)) (pv 3) (nomark _)) pa_nil)) ip_add)
    (pss_one (ps_if (pt_cmpR op_lt (pv 5) (pe_ix ix_seq (pv 4) (pe_op op_add3 (pv 6) pe_int) (fun _ _ => rfl)) (nomark _)) (pss_one (ps_ret pe_bl)) pss_nil)))))))
    (pss_one (ps_ret pe_bl))))
abbrev s__law_tight_known : Stmt := top 45
theorem sc__law_tight_known : FnScope n__law_tight_known p__law_tight_known (defScope s__law_tight_known) := ⟨rfl, rfl, rfl, by decide +kernel, rfl, by decide +kernel, by decide +kernel⟩
theorem w__law_tight_known {P : Program} {w : World} {K : PySem.W.Frag} {mg : Str → Option Value} {base : Heap} {f : Addr} {cdv : Value} {A : Around} {outer : List Env} {s : Shared} {H : Hp} {E : XK} {f__law_tightened f__law_take f__law_one f__law_mixed : Sp}
    (hr : Room 3 (A.deeper (envOfC "_law_tight_known" (defScope s__law_tight_known) s.heap.objs.size f cdv))) (c__law_tightened : Cl P w K mg base 2 "_law_tightened" f__law_tightened) (c__law_take : Cl P w K mg base 2 "_law_take" f__law_take) (c__law_one : Cl P w K mg base 3 "_law_one" f__law_one) (c__law_mixed : Cl P w K mg base 3 "_law_mixed" f__law_mixed) (b_tuple : mg "tuple" = none) (b_len : mg "len" = none) (b_range : mg "range" = none) (b_min : mg "min" = none) (b_list : mg "list" = none) :
    PSs (cxOf CX0 P w K mg base n__law_tight_known "_law_tight_known" (defScope s__law_tight_known) f cdv A outer s H E).nox (defBody s__law_tight_known) (t__law_tight_known K f__law_tightened f__law_take f__law_one f__law_mixed) := by
  have hu := hr.units
  have hv : (A.deeper (envOfC "_law_tight_known" (defScope s__law_tight_known) s.heap.objs.size f cdv)).units + 65 < cLine := by have := hr.un; omega
  have nd := sc__law_tight_known.nd
  unfold t__law_tight_known
  exact (pss_cons (ps_asg (pe_tupF (pa_cons (pe_callTy call_tupleF rfl b_tuple PyProof.Rows.boot_tuple (pa_cons (pe_cl c__law_mixed hr (by decide) rfl (pa_cons (pv 0) (pa_cons (pe_listRg rfl rfl b_list (prg_1 rfl b_range (pe_ix ix_seq (pv 1) pe_int (fun _ _ => rfl)))) pa_nil))) pa_nil)) (pa_cons (pe_lst pa_nil) (pa_cons pe_int pa_nil)))) (pg_tup rfl (pgs_cons (pg_name (i := 2) nd rfl (Or.inl rfl)) (pgs_cons (pg_name (i := 3) nd rfl (Or.inl rfl)) (pgs_cons (pg_name (i := 4) nd rfl (Or.inr rfl)) pgs_nil)))))
    (pss_cons (ps_for PassesOwn.never rfl (pi_seq (pe_ix ix_seq (pv 1) pe_int (fun _ _ => rfl))) (pg_name (i := 5) nd rfl (Or.inl rfl)) (pss_cons (ps_set (i := 4) nd rfl (Or.inr rfl) (pe_callB (call_min23 rfl) rfl b_min PyProof.Rows.boot_min (pa_cons (pe_ix ix_seq (pv 1) pe_int (fun _ _ => rfl)) (pa_cons (pe_op op_add3 (pv 4) (pe_cl c__law_one hr (by decide) rfl (pa_cons (pv 0) (pa_cons (pe_lst (pa_cons (pv 5) (pa_cons (pv 5) (pa_cons (pe_cl c__law_take hr (by decide) rfl (pa_cons (pv 0) (pa_cons (pe_op op_add3 (pv 5) pe_int) pa_nil))) pa_nil)))) pa_nil)))) pa_nil))))
    (pss_one (ps_expr (pe_bm PySem.F.plainAttrs_list PySem.F.slot_list_append PySem.F.type_list_append mt_append (pv 3) (pa_cons (pv 4) pa_nil))))))
    (pss_cons (ps_for PassesOwn.never rfl (pi_range1 rfl b_range (pa_cons pe_int pa_nil)) (pg_name (i := 6) nd rfl (Or.inl rfl)) (pss_cons (ps_set (i := 7) nd rfl (Or.inl rfl) (pe_lst pa_nil))
    (pss_cons (ps_for PassesOwn.never rfl (pi_seq (pv 3)) (pg_name (i := 4) nd rfl (Or.inr rfl)) (pss_cons (ps_setLc (i := 8) (own := [("_law_count", 10)]) (g := (gName 10)) (tt := tYes) rfl nd rfl rfl (sw_true rfl rfl rfl (by decide +kernel)) (pi_range1 rfl b_range (pa_cons (pe_op op_add3 (pe_ix ix_seq (pv 1) pe_int (fun _ _ => rfl)) pe_int) pa_nil)) (blkOk_by (N := n__law_tight_known) (sc := defScope s__law_tight_known) (by decide +kernel)) (fun _ _ _ _ _ => (pg_name (i := 10) nd rfl (by first | exact Or.inl rfl | exact Or.inr rfl))) (fun _ _ _ _ _ => pts_nil) (fun _ _ _ _ _ => (pe_tupF (pa_cons (pe_cl c__law_take hr (by decide) rfl (pa_cons (pv 0) (pa_cons pe_int pa_nil))) (pa_cons (pv 10) pa_nil)))))
    (pss_one (ps_expr (pe_bm PySem.F.plainAttrs_list PySem.F.slot_list_append PySem.F.type_list_append mt_append (pv 7) (pa_cons (pe_callTy call_tupleF rfl b_tuple PyProof.Rows.boot_tuple (pa_cons (pe_lc (own := [("_law_way", 11), ("_law_count", 10)]) (g := (gTup K 2 (gCons (gName 11) (gCons (gName 10) gNil)))) (tt := tYes) rfl nd (pi_seq (pv 8)) (blkOk_by (N := n__law_tight_known) (sc := defScope s__law_tight_known) (by decide +kernel)) (fun _ _ _ _ _ => (pg_tup rfl (pgs_cons (pg_name (i := 11) nd rfl (by first | exact Or.inl rfl | exact Or.inr rfl)) (pgs_cons (pg_name (i := 10) nd rfl (by first | exact Or.inl rfl | exact Or.inr rfl)) pgs_nil)))) (fun _ _ _ _ _ => pts_nil) (fun _ _ _ _ _ => (pe_ifExp (pt_cmpR (op_eqD hu) (pv 11) pe_int (nomark _)) (pe_callB (call_min23 rfl) rfl b_min PyProof.Rows.boot_min (pa_cons (pv 10) (pa_cons (pv 4) (pa_cons (pe_cl c__law_take hr (by decide) rfl (pa_cons (pv 0) (pa_cons (pe_op op_add3 (pv 10) pe_int) pa_nil))) pa_nil)))) pe_int))) pa_nil)) pa_nil))))))
    (pss_cons (ps_set (i := 9) nd rfl (Or.inl rfl) (pe_cl c__law_tightened hr (by decide) rfl (pa_cons (pe_callTy call_tupleF rfl b_tuple PyProof.Rows.boot_tuple (pa_cons (pv 7) pa_nil)) (pa_cons (pe_callTy call_tupleF rfl b_tuple PyProof.Rows.boot_tuple (pa_cons (pv 3) pa_nil)) pa_nil))))
    (pss_one (ps_if (pt_cmpR op_notN (pv 9) pe_non (nomark _)) (pss_one (ps_ret (pe_tupF (pa_cons (pv 2) (pa_cons (pv 9) pa_nil))))) pss_nil))))))
    (pss_one (ps_ret (pe_tupF (pa_cons (pv 2) (pa_cons (pe_cl c__law_tightened hr (by decide) rfl (pa_cons (pe_op op_mul3 (pe_tupF (pa_cons (pe_op op_mul3 (pe_tupF (pa_cons pe_int pa_nil)) (pe_op op_add3 (pe_ix ix_seq (pv 1) pe_int (fun _ _ => rfl)) pe_int)) pa_nil)) (pe_callB call_len_seq rfl b_len PySem.boot_len (pa_cons (pv 3) pa_nil))) (pa_cons (pe_callTy call_tupleF rfl b_tuple PyProof.Rows.boot_tuple (pa_cons (pv 3) pa_nil)) pa_nil))) pa_nil))))))))
abbrev s__law_known : Stmt := top 46
theorem sc__law_known : FnScope n__law_known p__law_known (defScope s__law_known) := ⟨rfl, rfl, rfl, by decide +kernel, rfl, by decide +kernel, by decide +kernel⟩
theorem w__law_known {P : Program} {w : World} {K : PySem.W.Frag} {mg : Str → Option Value} {base : Heap} {f : Addr} {cdv : Value} {A : Around} {outer : List Env} {s : Shared} {H : Hp} {E : XK} {f__law_first_known f__law_led_by f__law_take f__law_one f__law_story f__law_start : Sp}
    (hr : Room 6 (A.deeper (envOfC "_law_known" (defScope s__law_known) s.heap.objs.size f cdv))) (c__law_first_known : Cl P w K mg base 4 "_law_first_known" f__law_first_known) (c__law_led_by : Cl P w K mg base 4 "_law_led_by" f__law_led_by) (c__law_take : Cl P w K mg base 2 "_law_take" f__law_take) (c__law_one : Cl P w K mg base 3 "_law_one" f__law_one) (c__law_story : Cl P w K mg base 6 "_law_story" f__law_story) (c__law_start : Cl P w K mg base 5 "_law_start" f__law_start)  :
    PSs (cxOf CX0 P w K mg base n__law_known "_law_known" (defScope s__law_known) f cdv A outer s H E).nox (defBody s__law_known) (t__law_known K f__law_first_known f__law_led_by f__law_take f__law_one f__law_story f__law_start) := by
  have hu := hr.units
  have hv : (A.deeper (envOfC "_law_known" (defScope s__law_known) s.heap.objs.size f cdv)).units + 65 < cLine := by have := hr.un; omega
  have nd := sc__law_known.nd
  unfold t__law_known
  exact (pss_cons (ps_set (i := 4) nd rfl (Or.inl rfl) (pe_cl c__law_start hr (by decide) rfl (pa_cons (pv 0) (pa_cons (pv 1) pa_nil))))
    (pss_cons (ps_asg (pe_cl c__law_story hr (by decide) rfl (pa_cons (pv 0) (pa_cons (pv 1) (pa_cons (pv 4) (pa_cons (pe_cl c__law_one hr (by decide) rfl (pa_cons (pv 0) (pa_cons (pe_lst (pa_cons (pv 2) (pa_cons (pe_cl c__law_take hr (by decide) rfl (pa_cons (pv 0) (pa_cons (pe_op op_add3 (pv 2) pe_int) pa_nil))) (pa_cons pe_int (pa_cons (pv 2) pa_nil))))) pa_nil))) (pa_cons (pv 3) pa_nil)))))) (pg_tup rfl (pgs_cons (pg_name (i := 5) nd rfl (Or.inl rfl)) (pgs_cons (pg_name (i := 6) nd rfl (Or.inl rfl)) (pgs_cons (pg_name (i := 7) nd rfl (Or.inl rfl)) pgs_nil)))))
    (pss_one (ps_ret (pe_tupF (pa_cons (pv 4) (pa_cons (pv 6) (pa_cons (pe_ix ix_seq (pe_cl c__law_led_by hr (by decide) rfl (pa_cons (pv 1) (pa_cons (pe_cl c__law_first_known hr (by decide) rfl (pa_cons (pv 1) (pa_cons (pv 4) pa_nil))) (pa_cons (pv 6) pa_nil)))) pe_int (fun _ _ => rfl)) pa_nil))))))))
abbrev s__law_cuts : Stmt := top 47
theorem sc__law_cuts : FnScope n__law_cuts p__law_cuts (defScope s__law_cuts) := ⟨rfl, rfl, rfl, by decide +kernel, rfl, by decide +kernel, by decide +kernel⟩
theorem w__law_cuts {P : Program} {w : World} {K : PySem.W.Frag} {mg : Str → Option Value} {base : Heap} {f : Addr} {cdv : Value} {A : Around} {outer : List Env} {s : Shared} {H : Hp} {E : XK}
    (hr : Room 1 (A.deeper (envOfC "_law_cuts" (defScope s__law_cuts) s.heap.objs.size f cdv)))  (b_range : mg "range" = none) (b_len : mg "len" = none) :
    PSs (cxOf CX0 P w K mg base n__law_cuts "_law_cuts" (defScope s__law_cuts) f cdv A outer s H E).nox (defBody s__law_cuts) (t__law_cuts K ) := by
  have hu := hr.units
  have hv : (A.deeper (envOfC "_law_cuts" (defScope s__law_cuts) s.heap.objs.size f cdv)).units + 65 < cLine := by have := hr.un; omega
  have nd := sc__law_cuts.nd
  unfold t__law_cuts
  exact (pss_one (ps_ret (pe_lc (own := [("_law_at", 1)]) (g := (gName 1)) (tt := (tAnd (tTest (tOp (rI0 fun i j => .bl (decide (j < i))) (tOp (rIx K) (tVar 0) (tVar 1)) (tOp (rIx K) (tVar 0) (tOp (rI0 fun i j => .int (i - j)) (tVar 1) (tC (.int 1)))))) (tTest (tOp (rEqD K) (tOp (rIx K) (tVar 0) (tOp rAdd3 (tVar 1) (tC (.int 1)))) (tOp (rIx K) (tVar 0) (tVar 1)))))) rfl nd (pi_range2 rfl b_range (pa_cons pe_int (pa_cons (pe_op op_sub (pe_callB call_len_seq rfl b_len PySem.boot_len (pa_cons (pv 0) pa_nil)) pe_int) pa_nil))) (blkOk_by (N := n__law_cuts) (sc := defScope s__law_cuts) (by decide +kernel)) (fun _ _ _ _ _ => (pg_name (i := 1) nd rfl (by first | exact Or.inl rfl | exact Or.inr rfl))) (fun _ _ _ _ _ => pts_one (PW.pt (pw_and (pt_cmpR op_gt (pe_ix ix_seq (pv 0) (pv 1) (fun _ _ => rfl)) (pe_ix ix_seq (pv 0) (pe_op op_sub (pv 1) pe_int) (fun _ _ => rfl)) (nomark _)) (pw_and1 (pt_cmpR (op_eqD hu) (pe_ix ix_seq (pv 0) (pe_op op_add3 (pv 1) pe_int) (fun _ _ => rfl)) (pe_ix ix_seq (pv 0) (pv 1) (fun _ _ => rfl)) (nomark _)))))) (fun _ _ _ _ _ => (pv 1)))))
abbrev s__law_blocks : Stmt := top 48
theorem sc__law_blocks : FnScope n__law_blocks p__law_blocks (defScope s__law_blocks) := ⟨rfl, rfl, rfl, by decide +kernel, rfl, by decide +kernel, by decide +kernel⟩
theorem w__law_blocks {P : Program} {w : World} {K : PySem.W.Frag} {mg : Str → Option Value} {base : Heap} {f : Addr} {cdv : Value} {A : Around} {outer : List Env} {s : Shared} {H : Hp} {E : XK} {f__law_cuts : Sp}
    (hr : Room 2 (A.deeper (envOfC "_law_blocks" (defScope s__law_blocks) s.heap.objs.size f cdv))) (c__law_cuts : Cl P w K mg base 2 "_law_cuts" f__law_cuts) (b_tuple : mg "tuple" = none) (b_sorted : mg "sorted" = none) :
    PSs (cxOf CX0 P w K mg base n__law_blocks "_law_blocks" (defScope s__law_blocks) f cdv A outer s H E).nox (defBody s__law_blocks) (t__law_blocks K f__law_cuts) := by
  have hu := hr.units
  have hv : (A.deeper (envOfC "_law_blocks" (defScope s__law_blocks) s.heap.objs.size f cdv)).units + 65 < cLine := by have := hr.un; omega
  have nd := sc__law_blocks.nd
  unfold t__law_blocks
  exact (pss_cons (ps_set (i := 1) nd rfl (Or.inl rfl) (pe_lst pa_nil))
    (pss_cons (ps_for PassesOwn.never rfl (pi_seq (pe_ix ix_seq (pv 0) pe_int (fun _ _ => rfl))) (pg_name (i := 2) nd rfl (Or.inl rfl)) (pss_cons (ps_par (i := 3) (j := 4) rfl nd rfl rfl (by decide) rfl rfl (pa_cons (pe_lst pa_nil) (pa_cons pe_int pa_nil)) rfl)
    (pss_cons (ps_for PassesOwn.never rfl (pi_seq (pe_cl c__law_cuts hr (by decide) rfl (pa_cons (pv 2) pa_nil))) (pg_name (i := 5) nd rfl (Or.inl rfl)) (pss_cons (ps_expr (pe_bm PySem.F.plainAttrs_list PySem.F.slot_list_append PySem.F.type_list_append mt_append (pv 3) (pa_cons (pe_tupF (pa_cons (pe_callTy call_tupleF rfl b_tuple PyProof.Rows.boot_tuple (pa_cons (pe_callB cr_sortB rfl b_sorted PyProof.Rows.boot_sorted (pa_cons (pe_slice sl_2 (pe_ix ix_seq (pv 0) pe_int (fun _ _ => rfl)) (po_some (pv 4)) (po_some (pv 5))) pa_nil)) pa_nil)) (pa_cons (pe_ix ix_seq (pv 2) (pv 5) (fun _ _ => rfl)) pa_nil))) pa_nil)))
    (pss_one (ps_set (i := 4) nd rfl (Or.inl rfl) (pv 5)))))
    (pss_one (ps_expr (pe_bm PySem.F.plainAttrs_list PySem.F.slot_list_append PySem.F.type_list_append mt_append (pv 1) (pa_cons (pe_callTy call_tupleF rfl b_tuple PyProof.Rows.boot_tuple (pa_cons (pv 3) pa_nil)) pa_nil)))))))
    (pss_one (ps_ret (pe_callTy call_tupleF rfl b_tuple PyProof.Rows.boot_tuple (pa_cons (pv 1) pa_nil))))))
abbrev s__law_parts : Stmt := top 49
theorem sc__law_parts : FnScope n__law_parts p__law_parts (defScope s__law_parts) := ⟨rfl, rfl, rfl, by decide +kernel, rfl, by decide +kernel, by decide +kernel⟩
theorem w__law_parts {P : Program} {w : World} {K : PySem.W.Frag} {mg : Str → Option Value} {base : Heap} {f : Addr} {cdv : Value} {A : Around} {outer : List Env} {s : Shared} {H : Hp} {E : XK} {f__law_cuts f__law_flat : Sp}
    (hr : Room 2 (A.deeper (envOfC "_law_parts" (defScope s__law_parts) s.heap.objs.size f cdv))) (c__law_cuts : Cl P w K mg base 2 "_law_cuts" f__law_cuts) (c__law_flat : Cl P w K mg base 2 "_law_flat" f__law_flat) (b_sorted : mg "sorted" = none) (b_set : mg "set" = none) (b_len : mg "len" = none) (b_list : mg "list" = none) :
    PSs (cxOf CX0 P w K mg base n__law_parts "_law_parts" (defScope s__law_parts) f cdv A outer s H E).nox (defBody s__law_parts) (t__law_parts K f__law_cuts f__law_flat) := by
  have hu := hr.units
  have hv : (A.deeper (envOfC "_law_parts" (defScope s__law_parts) s.heap.objs.size f cdv)).units + 65 < cLine := by have := hr.un; omega
  have nd := sc__law_parts.nd
  unfold t__law_parts
  exact (pss_cons (ps_par (i := 1) (j := 2) rfl nd rfl rfl (by decide) rfl rfl (pa_cons (pe_lst pa_nil) (pa_cons pe_int pa_nil)) rfl)
    (pss_cons (ps_for PassesOwn.never rfl (pi_seq (pe_op op_add3 (pe_sortSet rfl b_sorted rfl b_set (pa_cons (pe_cl c__law_flat hr (by decide) rfl (pa_cons (pe_lc (own := [("_law_word", 4)]) (g := (gName 4)) (tt := tYes) rfl nd (pi_seq (pe_ix ix_seq (pv 0) pe_int (fun _ _ => rfl))) (blkOk_by (N := n__law_parts) (sc := defScope s__law_parts) (by decide +kernel)) (fun _ _ _ _ _ => (pg_name (i := 4) nd rfl (by first | exact Or.inl rfl | exact Or.inr rfl))) (fun _ _ _ _ _ => pts_nil) (fun _ _ _ _ _ => (pe_cl c__law_cuts hr (by decide) rfl (pa_cons (pv 4) pa_nil)))) pa_nil)) pa_nil)) (pe_lst (pa_cons (pe_callB call_len_seq rfl b_len PySem.boot_len (pa_cons (pe_ix ix_seq (pv 0) pe_int (fun _ _ => rfl)) pa_nil)) pa_nil)))) (pg_name (i := 3) nd rfl (Or.inl rfl)) (pss_cons (ps_expr (pe_bm PySem.F.plainAttrs_list PySem.F.slot_list_append PySem.F.type_list_append mt_append (pv 1) (pa_cons (pe_callTy call_list_of rfl b_list PyProof.Rows.boot_list (pa_cons (pe_slice sl_2 (pe_ix ix_seq (pv 0) pe_int (fun _ _ => rfl)) (po_some (pv 2)) (po_some (pv 3))) pa_nil)) pa_nil)))
    (pss_one (ps_set (i := 2) nd rfl (Or.inl rfl) (pv 3)))))
    (pss_one (ps_ret (pv 1)))))
abbrev s__law_stirred : Stmt := top 50
theorem sc__law_stirred : FnScope n__law_stirred p__law_stirred (defScope s__law_stirred) := ⟨rfl, rfl, rfl, by decide +kernel, rfl, by decide +kernel, by decide +kernel⟩
theorem w__law_stirred {P : Program} {w : World} {K : PySem.W.Frag} {mg : Str → Option Value} {base : Heap} {f : Addr} {cdv : Value} {A : Around} {outer : List Env} {s : Shared} {H : Hp} {E : XK} {f__law_parts f__law_mixed f__law_flat : Sp}
    (hr : Room 3 (A.deeper (envOfC "_law_stirred" (defScope s__law_stirred) s.heap.objs.size f cdv))) (c__law_parts : Cl P w K mg base 3 "_law_parts" f__law_parts) (c__law_mixed : Cl P w K mg base 3 "_law_mixed" f__law_mixed) (c__law_flat : Cl P w K mg base 2 "_law_flat" f__law_flat) (b_tuple : mg "tuple" = none) :
    PSs (cxOf CX0 P w K mg base n__law_stirred "_law_stirred" (defScope s__law_stirred) f cdv A outer s H E).nox (defBody s__law_stirred) (t__law_stirred K f__law_parts f__law_mixed f__law_flat) := by
  have hu := hr.units
  have hv : (A.deeper (envOfC "_law_stirred" (defScope s__law_stirred) s.heap.objs.size f cdv)).units + 65 < cLine := by have := hr.un; omega
  have nd := sc__law_stirred.nd
  unfold t__law_stirred
  exact (pss_one (ps_ret (pe_tupF (pa_cons (pe_callTy call_tupleF rfl b_tuple PyProof.Rows.boot_tuple (pa_cons (pe_cl c__law_flat hr (by decide) rfl (pa_cons (pe_lc (own := [("_law_part", 2)]) (g := (gName 2)) (tt := tYes) rfl nd (pi_seq (pe_cl c__law_parts hr (by decide) rfl (pa_cons (pv 1) pa_nil))) (blkOk_by (N := n__law_stirred) (sc := defScope s__law_stirred) (by decide +kernel)) (fun _ _ _ _ _ => (pg_name (i := 2) nd rfl (by first | exact Or.inl rfl | exact Or.inr rfl))) (fun _ _ _ _ _ => pts_nil) (fun _ _ _ _ _ => (pe_cl c__law_mixed hr (by decide) rfl (pa_cons (pv 0) (pa_cons (pv 2) pa_nil))))) pa_nil)) pa_nil)) (pa_cons (pe_ix ix_seq (pv 1) pe_int (fun _ _ => rfl)) pa_nil)))))
abbrev s__law_sharper : Stmt := top 51
theorem sc__law_sharper : FnScope n__law_sharper p__law_sharper (defScope s__law_sharper) := ⟨rfl, rfl, rfl, by decide +kernel, rfl, by decide +kernel, by decide +kernel⟩
theorem w__law_sharper {P : Program} {w : World} {K : PySem.W.Frag} {mg : Str → Option Value} {base : Heap} {f : Addr} {cdv : Value} {A : Around} {outer : List Env} {s : Shared} {H : Hp} {E : XK} {f__law_known_sizes f__law_tightened f__law_one f__law_take : Sp}
    (hr : Room 3 (A.deeper (envOfC "_law_sharper" (defScope s__law_sharper) s.heap.objs.size f cdv))) (c__law_known_sizes : Cl P w K mg base 2 "_law_known_sizes" f__law_known_sizes) (c__law_tightened : Cl P w K mg base 2 "_law_tightened" f__law_tightened) (c__law_one : Cl P w K mg base 3 "_law_one" f__law_one) (c__law_take : Cl P w K mg base 2 "_law_take" f__law_take) (b_tuple : mg "tuple" = none) (b_range : mg "range" = none) (b_len : mg "len" = none) (b_list : mg "list" = none) :
    PSs (cxOf CX0 P w K mg base n__law_sharper "_law_sharper" (defScope s__law_sharper) f cdv A outer s H E).nox (defBody s__law_sharper) (t__law_sharper K f__law_known_sizes f__law_tightened f__law_one f__law_take) := by
  have hu := hr.units
  have hv : (A.deeper (envOfC "_law_sharper" (defScope s__law_sharper) s.heap.objs.size f cdv)).units + 65 < cLine := by have := hr.un; omega
  have nd := sc__law_sharper.nd
  unfold t__law_sharper
  exact (pss_cons (ps_setLc (i := 2) (own := [("_law_word", 7)]) (g := (gName 7)) (tt := tYes) rfl nd rfl rfl (sw_true rfl rfl rfl (by decide +kernel)) (pi_seq (pe_ix ix_seq (pv 1) pe_int (fun _ _ => rfl))) (blkOk_by (N := n__law_sharper) (sc := defScope s__law_sharper) (by decide +kernel)) (fun _ _ _ _ _ => (pg_name (i := 7) nd rfl (by first | exact Or.inl rfl | exact Or.inr rfl))) (fun _ _ _ _ _ => pts_nil) (fun _ _ _ _ _ => (pe_callTy call_list_of rfl b_list PyProof.Rows.boot_list (pa_cons (pv 7) pa_nil))))
    (pss_cons (ps_for PassesOwn.never rfl (pi_range1 rfl b_range (pa_cons (pe_cl c__law_one hr (by decide) rfl (pa_cons (pv 0) (pa_cons (pe_lst (pa_cons pe_int (pa_cons pe_int (pa_cons pe_int pa_nil)))) pa_nil))) pa_nil)) (pg_name (i := 3) nd rfl (Or.inl rfl)) (pss_cons (ps_set (i := 4) nd rfl (Or.inl rfl) (pe_cl c__law_one hr (by decide) rfl (pa_cons (pv 0) (pa_cons (pv 2) pa_nil))))
    (pss_cons (ps_set (i := 5) nd rfl (Or.inl rfl) (pe_cl c__law_take hr (by decide) rfl (pa_cons (pv 0) (pa_cons (pe_callB call_len_seq rfl b_len PySem.boot_len (pa_cons (pv 4) pa_nil)) pa_nil))))
    (pss_one (ps_asg (pe_op op_add3 (pe_ix ix_seq (pv 4) (pv 5) (fun _ _ => rfl)) pe_int) (pg_sub (pv 4) (pv 5) set_list))))))
    (pss_cons (ps_set (i := 6) nd rfl (Or.inl rfl) (pe_cl c__law_tightened hr (by decide) rfl (pa_cons (pe_callTy call_tupleF rfl b_tuple PyProof.Rows.boot_tuple (pa_cons (pe_lc (own := [("_law_row", 4)]) (g := (gName 4)) (tt := tYes) rfl nd (pi_seq (pv 2)) (blkOk_by (N := n__law_sharper) (sc := defScope s__law_sharper) (by decide +kernel)) (fun _ _ _ _ _ => (pg_name (i := 4) nd rfl (by first | exact Or.inl rfl | exact Or.inr rfl))) (fun _ _ _ _ _ => pts_nil) (fun _ _ _ _ _ => (pe_callTy call_tupleF rfl b_tuple PyProof.Rows.boot_tuple (pa_cons (pv 4) pa_nil)))) pa_nil)) (pa_cons (pe_cl c__law_known_sizes hr (by decide) rfl (pa_cons (pv 1) pa_nil)) pa_nil))))
    (pss_one (ps_ret (pe_ifExp (pt_cmpR op_isN (pv 6) pe_non (nomark _)) (pv 1) (pe_tupF (pa_cons (pe_ix ix_seq (pv 1) pe_int (fun _ _ => rfl)) (pa_cons (pv 6) pa_nil)))))))))
abbrev s__law_of_sizes : Stmt := top 52
theorem sc__law_of_sizes : FnScope n__law_of_sizes p__law_of_sizes (defScope s__law_of_sizes) := ⟨rfl, rfl, rfl, by decide +kernel, rfl, by decide +kernel, by decide +kernel⟩
theorem w__law_of_sizes {P : Program} {w : World} {K : PySem.W.Frag} {mg : Str → Option Value} {base : Heap} {f : Addr} {cdv : Value} {A : Around} {outer : List Env} {s : Shared} {H : Hp} {E : XK} {f__law_tightened f__law_take f__law_mixed : Sp}
    (hr : Room 3 (A.deeper (envOfC "_law_of_sizes" (defScope s__law_of_sizes) s.heap.objs.size f cdv))) (c__law_tightened : Cl P w K mg base 2 "_law_tightened" f__law_tightened) (c__law_take : Cl P w K mg base 2 "_law_take" f__law_take) (c__law_mixed : Cl P w K mg base 3 "_law_mixed" f__law_mixed) (b_len : mg "len" = none) (b_tuple : mg "tuple" = none) (b_range : mg "range" = none) (b_min : mg "min" = none) (b_int : mg "int" = none) (b_list : mg "list" = none) :
    PSs (cxOf CX0 P w K mg base n__law_of_sizes "_law_of_sizes" (defScope s__law_of_sizes) f cdv A outer s H E).nox (defBody s__law_of_sizes) (t__law_of_sizes K f__law_tightened f__law_take f__law_mixed) := by
  have hu := hr.units
  have hv : (A.deeper (envOfC "_law_of_sizes" (defScope s__law_of_sizes) s.heap.objs.size f cdv)).units + 65 < cLine := by have := hr.un; omega
  have nd := sc__law_of_sizes.nd
  unfold t__law_of_sizes
  exact (pss_cons (ps_set (i := 3) nd rfl (Or.inl rfl) (pe_callTy call_tupleF rfl b_tuple PyProof.Rows.boot_tuple (pa_cons (pe_cl c__law_mixed hr (by decide) rfl (pa_cons (pv 0) (pa_cons (pe_listRg rfl rfl b_list (prg_1 rfl b_range (pe_ix ix_seq (pv 1) pe_int (fun _ _ => rfl)))) pa_nil))) pa_nil)))
    (pss_cons (ps_set (i := 4) nd rfl (Or.inl rfl) (pe_lst pa_nil))
    (pss_cons (ps_for PassesOwn.never rfl (pi_seq (pv 2)) (pg_name (i := 5) nd rfl (Or.inr rfl)) (pss_one (ps_expr (pe_bm PySem.F.plainAttrs_list PySem.F.slot_list_append PySem.F.type_list_append mt_append (pv 4) (pa_cons (pe_callTy call_tupleF rfl b_tuple PyProof.Rows.boot_tuple (pa_cons (pe_lc (own := [("_law_at", 7)]) (g := (gName 7)) (tt := tYes) rfl nd (pi_range1 rfl b_range (pa_cons (pe_op op_add3 (pe_ix ix_seq (pv 1) pe_int (fun _ _ => rfl)) pe_int) pa_nil)) (blkOk_by (N := n__law_of_sizes) (sc := defScope s__law_of_sizes) (by decide +kernel)) (fun _ _ _ _ _ => (pg_name (i := 7) nd rfl (by first | exact Or.inl rfl | exact Or.inr rfl))) (fun _ _ _ _ _ => pts_nil) (fun _ _ _ _ _ => (pe_op op_mul3 (pe_callB (call_min23 rfl) rfl b_min PyProof.Rows.boot_min (pa_cons (pv 7) (pa_cons (pv 5) (pa_cons (pe_cl c__law_take hr (by decide) rfl (pa_cons (pv 0) (pa_cons (pe_op op_add3 (pv 7) pe_int) pa_nil))) pa_nil)))) (pe_callTy call_int1 rfl b_int PyProof.Rows.boot_int (pa_cons (pe_cmpR (op_eqD hu) (pe_cl c__law_take hr (by decide) rfl (pa_cons (pv 0) (pa_cons pe_int pa_nil))) pe_int (nomark _)) pa_nil))))) pa_nil)) pa_nil)))))
    (pss_cons (ps_set (i := 6) nd rfl (Or.inl rfl) (pe_cl c__law_tightened hr (by decide) rfl (pa_cons (pe_callTy call_tupleF rfl b_tuple PyProof.Rows.boot_tuple (pa_cons (pv 4) pa_nil)) (pa_cons (pv 2) pa_nil))))
    (pss_one (ps_ret (pe_tupF (pa_cons (pv 3) (pa_cons (pe_ifExp (pt_cmpR op_notN (pv 6) pe_non (nomark _)) (pv 6) (pe_cl c__law_tightened hr (by decide) rfl (pa_cons (pe_op op_mul3 (pe_tupF (pa_cons (pe_op op_mul3 (pe_tupF (pa_cons pe_int pa_nil)) (pe_op op_add3 (pe_ix ix_seq (pv 1) pe_int (fun _ _ => rfl)) pe_int)) pa_nil)) (pe_callB call_len_seq rfl b_len PySem.boot_len (pa_cons (pv 2) pa_nil))) (pa_cons (pv 2) pa_nil)))) pa_nil)))))))))
abbrev s__law_swapped : Stmt := top 53
theorem sc__law_swapped : FnScope n__law_swapped p__law_swapped (defScope s__law_swapped) := ⟨rfl, rfl, rfl, by decide +kernel, rfl, by decide +kernel, by decide +kernel⟩
theorem w__law_swapped {P : Program} {w : World} {K : PySem.W.Frag} {mg : Str → Option Value} {base : Heap} {f : Addr} {cdv : Value} {A : Around} {outer : List Env} {s : Shared} {H : Hp} {E : XK} {f__law_take : Sp}
    (hr : Room 2 (A.deeper (envOfC "_law_swapped" (defScope s__law_swapped) s.heap.objs.size f cdv))) (c__law_take : Cl P w K mg base 2 "_law_take" f__law_take) (b_tuple : mg "tuple" = none) (b_len : mg "len" = none) (b_list : mg "list" = none) :
    PSs (cxOf CX0 P w K mg base n__law_swapped "_law_swapped" (defScope s__law_swapped) f cdv A outer s H E).nox (defBody s__law_swapped) (t__law_swapped K f__law_take) := by
  have hu := hr.units
  have hv : (A.deeper (envOfC "_law_swapped" (defScope s__law_swapped) s.heap.objs.size f cdv)).units + 65 < cLine := by have := hr.un; omega
  have nd := sc__law_swapped.nd
  unfold t__law_swapped
  exact (pss_cons (ps_set (i := 2) nd rfl (Or.inl rfl) (pe_callTy call_list_of rfl b_list PyProof.Rows.boot_list (pa_cons (pe_ix ix_seq (pv 1) pe_int (fun _ _ => rfl)) pa_nil)))
    (pss_cons (ps_if (pt_cmpR (op_neD hu) (pv 2) (pe_lst pa_nil) (nomark _)) (pss_cons (ps_par (i := 3) (j := 4) rfl nd rfl rfl (by decide) rfl rfl (pa_cons (pe_cl c__law_take hr (by decide) rfl (pa_cons (pv 0) (pa_cons (pe_callB call_len_seq rfl b_len PySem.boot_len (pa_cons (pv 2) pa_nil)) pa_nil))) (pa_cons (pe_cl c__law_take hr (by decide) rfl (pa_cons (pv 0) (pa_cons (pe_callB call_len_seq rfl b_len PySem.boot_len (pa_cons (pv 2) pa_nil)) pa_nil))) pa_nil)) rfl)
    (pss_one (ps_asg (pe_tupF (pa_cons (pe_ix ix_seq (pv 2) (pv 4) (fun _ _ => rfl)) (pa_cons (pe_ix ix_seq (pv 2) (pv 3) (fun _ _ => rfl)) pa_nil))) (pg_tup rfl (pgs_cons (pg_sub (pv 2) (pv 3) set_list) (pgs_cons (pg_sub (pv 2) (pv 4) set_list) pgs_nil)))))) pss_nil)
    (pss_one (ps_ret (pe_tupF (pa_cons (pe_callTy call_tupleF rfl b_tuple PyProof.Rows.boot_tuple (pa_cons (pv 2) pa_nil)) (pa_cons (pe_ix ix_seq (pv 1) pe_int (fun _ _ => rfl)) pa_nil)))))))
abbrev s__law_some_known : Stmt := top 54
theorem sc__law_some_known : FnScope n__law_some_known p__law_some_known (defScope s__law_some_known) := ⟨rfl, rfl, rfl, by decide +kernel, rfl, by decide +kernel, by decide +kernel⟩
theorem w__law_some_known {P : Program} {w : World} {K : PySem.W.Frag} {mg : Str → Option Value} {base : Heap} {f : Addr} {cdv : Value} {A : Around} {outer : List Env} {s : Shared} {H : Hp} {E : XK} {f__law_take f__law_tight_known f__law_known : Sp}
    (hr : Room 7 (A.deeper (envOfC "_law_some_known" (defScope s__law_some_known) s.heap.objs.size f cdv))) (c__law_take : Cl P w K mg base 2 "_law_take" f__law_take) (c__law_tight_known : Cl P w K mg base 4 "_law_tight_known" f__law_tight_known) (c__law_known : Cl P w K mg base 7 "_law_known" f__law_known)  :
    PSs (cxOf CX0 P w K mg base n__law_some_known "_law_some_known" (defScope s__law_some_known) f cdv A outer s H E).nox (defBody s__law_some_known) (t__law_some_known K f__law_take f__law_tight_known f__law_known) := by
  have hu := hr.units
  have hv : (A.deeper (envOfC "_law_some_known" (defScope s__law_some_known) s.heap.objs.size f cdv)).units + 65 < cLine := by have := hr.un; omega
  have nd := sc__law_some_known.nd
  unfold t__law_some_known
  exact (pss_one (ps_ret (pe_ifExp (pt_cmpR (op_eqD hu) (pe_cl c__law_take hr (by decide) rfl (pa_cons (pv 0) (pa_cons pe_int pa_nil))) pe_int (nomark _)) (pe_cl c__law_tight_known hr (by decide) rfl (pa_cons (pv 0) (pa_cons (pv 1) pa_nil))) (pe_ix ix_seq (pe_cl c__law_known hr (by decide) rfl (pa_cons (pv 0) (pa_cons (pv 1) (pa_cons pe_int (pa_cons pe_int pa_nil))))) pe_int (fun _ _ => rfl)))))
abbrev s__law_two_knowns : Stmt := top 55
theorem sc__law_two_knowns : FnScope n__law_two_knowns p__law_two_knowns (defScope s__law_two_knowns) := ⟨rfl, rfl, rfl, by decide +kernel, rfl, by decide +kernel, by decide +kernel⟩
theorem w__law_two_knowns {P : Program} {w : World} {K : PySem.W.Frag} {mg : Str → Option Value} {base : Heap} {f : Addr} {cdv : Value} {A : Around} {outer : List Env} {s : Shared} {H : Hp} {E : XK} {f__law_take f__law_sharper f__law_known_sizes f__law_of_sizes f__law_swapped f__law_stirred f__law_one f__law_some_known : Sp}
    (hr : Room 8 (A.deeper (envOfC "_law_two_knowns" (defScope s__law_two_knowns) s.heap.objs.size f cdv))) (c__law_take : Cl P w K mg base 2 "_law_take" f__law_take) (c__law_sharper : Cl P w K mg base 4 "_law_sharper" f__law_sharper) (c__law_known_sizes : Cl P w K mg base 2 "_law_known_sizes" f__law_known_sizes) (c__law_of_sizes : Cl P w K mg base 4 "_law_of_sizes" f__law_of_sizes) (c__law_swapped : Cl P w K mg base 3 "_law_swapped" f__law_swapped) (c__law_stirred : Cl P w K mg base 4 "_law_stirred" f__law_stirred) (c__law_one : Cl P w K mg base 3 "_law_one" f__law_one) (c__law_some_known : Cl P w K mg base 8 "_law_some_known" f__law_some_known)  :
    PSs (cxOf CX0 P w K mg base n__law_two_knowns "_law_two_knowns" (defScope s__law_two_knowns) f cdv A outer s H E).nox (defBody s__law_two_knowns) (t__law_two_knowns K f__law_take f__law_sharper f__law_known_sizes f__law_of_sizes f__law_swapped f__law_stirred f__law_one f__law_some_known) := by
  have hu := hr.units
  have hv : (A.deeper (envOfC "_law_two_knowns" (defScope s__law_two_knowns) s.heap.objs.size f cdv)).units + 65 < cLine := by have := hr.un; omega
  have nd := sc__law_two_knowns.nd
  unfold t__law_two_knowns
  exact (pss_cons (ps_set (i := 2) nd rfl (Or.inl rfl) (pe_cl c__law_some_known hr (by decide) rfl (pa_cons (pv 0) (pa_cons (pv 1) pa_nil))))
    (pss_cons (ps_set (i := 3) nd rfl (Or.inl rfl) (pe_cl c__law_one hr (by decide) rfl (pa_cons (pv 0) (pa_cons (pe_lst (pa_cons pe_int (pa_cons pe_int (pa_cons pe_int (pa_cons pe_int (pa_cons pe_int (pa_cons pe_int (pa_cons pe_int (pa_cons pe_int pa_nil))))))))) pa_nil))))
    (pss_cons (ps_set (i := 4) nd rfl (Or.inl rfl) (pe_cl c__law_stirred hr (by decide) rfl (pa_cons (pv 0) (pa_cons (pv 2) pa_nil))))
    (pss_cons (ps_if (PW.pt (pw_or (pt_cmpR (op_eqD hu) (pv 3) pe_int (nomark _)) (pw_or1 (pt_cmpR (op_eqD hu) (pv 3) pe_int (nomark _))))) (pss_one (ps_set (i := 4) nd rfl (Or.inl rfl) (pe_cl c__law_sharper hr (by decide) rfl (pa_cons (pv 0) (pa_cons (pv 4) pa_nil))))) pss_nil)
    (pss_cons (ps_if (pt_cmpR (op_eqD hu) (pv 3) pe_int (nomark _)) (pss_one (ps_set (i := 4) nd rfl (Or.inl rfl) (pe_cl c__law_swapped hr (by decide) rfl (pa_cons (pv 0) (pa_cons (pv 2) pa_nil))))) pss_nil)
    (pss_cons (ps_if (pt_cmpR (op_eqD hu) (pv 3) pe_int (nomark _)) (pss_one (ps_set (i := 4) nd rfl (Or.inl rfl) (pe_cl c__law_of_sizes hr (by decide) rfl (pa_cons (pv 0) (pa_cons (pv 1) (pa_cons (pe_cl c__law_known_sizes hr (by decide) rfl (pa_cons (pv 2) pa_nil)) pa_nil)))))) pss_nil)
    (pss_cons (ps_if (pt_cmpR (op_eqD hu) (pv 3) pe_int (nomark _)) (pss_one (ps_set (i := 4) nd rfl (Or.inl rfl) (pe_cl c__law_sharper hr (by decide) rfl (pa_cons (pv 0) (pa_cons (pv 2) pa_nil))))) pss_nil)
    (pss_one (ps_ret (pe_ifExp (pt_cmpR (op_eqD hu) (pe_cl c__law_take hr (by decide) rfl (pa_cons (pv 0) (pa_cons pe_int pa_nil))) pe_int (nomark _)) (pe_tupF (pa_cons (pv 2) (pa_cons (pv 4) pa_nil))) (pe_tupF (pa_cons (pv 4) (pa_cons (pv 2) pa_nil)))))))))))))
abbrev s__law_states_that_fit : Stmt := top 56
theorem sc__law_states_that_fit : FnScope n__law_states_that_fit p__law_states_that_fit (defScope s__law_states_that_fit) := ⟨rfl, rfl, rfl, by decide +kernel, rfl, by decide +kernel, by decide +kernel⟩
theorem w__law_states_that_fit {P : Program} {w : World} {K : PySem.W.Frag} {mg : Str → Option Value} {base : Heap} {f : Addr} {cdv : Value} {A : Around} {outer : List Env} {s : Shared} {H : Hp} {E : XK} {f__law_all_states f__law_fits : Sp}
    (hr : Room 4 (A.deeper (envOfC "_law_states_that_fit" (defScope s__law_states_that_fit) s.heap.objs.size f cdv))) (c__law_all_states : Cl P w K mg base 2 "_law_all_states" f__law_all_states) (c__law_fits : Cl P w K mg base 4 "_law_fits" f__law_fits)  :
    PSs (cxOf CX0 P w K mg base n__law_states_that_fit "_law_states_that_fit" (defScope s__law_states_that_fit) f cdv A outer s H E).nox (defBody s__law_states_that_fit) (t__law_states_that_fit K f__law_all_states f__law_fits) := by
  have hu := hr.units
  have hv : (A.deeper (envOfC "_law_states_that_fit" (defScope s__law_states_that_fit) s.heap.objs.size f cdv)).units + 65 < cLine := by have := hr.un; omega
  have nd := sc__law_states_that_fit.nd
  unfold t__law_states_that_fit
  exact (pss_one (ps_ret (pe_lc (own := [("_law_state_here", 2)]) (g := (gName 2)) (tt := (tB (tCall f__law_fits [] E0 (tCons (tVar 0) (tCons (tVar 1) (tCons (tVar 2) tNil)))))) rfl nd (pi_seq (pe_cl c__law_all_states hr (by decide) rfl (pa_cons (pv 0) pa_nil))) (blkOk_by (N := n__law_states_that_fit) (sc := defScope s__law_states_that_fit) (by decide +kernel)) (fun _ _ _ _ _ => (pg_name (i := 2) nd rfl (by first | exact Or.inl rfl | exact Or.inr rfl))) (fun _ _ _ _ _ => pts_one (pt_val (pe_cl c__law_fits hr (by decide) rfl (pa_cons (pv 0) (pa_cons (pv 1) (pa_cons (pv 2) pa_nil)))))) (fun _ _ _ _ _ => (pv 2)))))
abbrev s__law_least_of : Stmt := top 57
theorem sc__law_least_of : FnScope n__law_least_of p__law_least_of (defScope s__law_least_of) := ⟨rfl, rfl, rfl, by decide +kernel, rfl, by decide +kernel, by decide +kernel⟩
theorem w__law_least_of {P : Program} {w : World} {K : PySem.W.Frag} {mg : Str → Option Value} {base : Heap} {f : Addr} {cdv : Value} {A : Around} {outer : List Env} {s : Shared} {H : Hp} {E : XK}
    (hr : Room 1 (A.deeper (envOfC "_law_least_of" (defScope s__law_least_of) s.heap.objs.size f cdv)))  (b_enumerate : mg "enumerate" = none) (b_max : mg "max" = none) (b_int : mg "int" = none) :
    PSs (cxOf CX0 P w K mg base n__law_least_of "_law_least_of" (defScope s__law_least_of) f cdv A outer s H E).nox (defBody s__law_least_of) (t__law_least_of K ) := by
  have hu := hr.units
  have hv : (A.deeper (envOfC "_law_least_of" (defScope s__law_least_of) s.heap.objs.size f cdv)).units + 65 < cLine := by have := hr.un; omega
  have nd := sc__law_least_of.nd
  unfold t__law_least_of
  exact (pss_cons (FK.ps_par3 (i := 3) (j := 4) (k := 5) rfl nd rfl rfl rfl rfl rfl rfl (pa_cons pe_int (pa_cons (pe_ix ix_seq (pe_ix ix_seq (pe_ix ix_seq (pv 0) pe_int (fun _ _ => rfl)) (pv 1) (fun _ _ => rfl)) (pe_un un_neg pe_int) (fun _ _ => rfl)) (pa_cons pe_int pa_nil))) rfl)
    (pss_cons (ps_for PassesOwn.never rfl (pi_enu1 rfl b_enumerate (pa_cons (pe_ix ix_seq (pe_ix ix_seq (pv 0) pe_int (fun _ _ => rfl)) (pv 1) (fun _ _ => rfl)) pa_nil)) (pg_tup rfl (pgs_cons (pg_name (i := 6) nd rfl (Or.inl rfl)) (pgs_cons (pg_name (i := 7) nd rfl (Or.inl rfl)) pgs_nil))) (pss_cons (ps_aug (i := 5) nd rfl (Or.inl rfl) (pe_callTy call_int1 rfl b_int PyProof.Rows.boot_int (pa_cons (pe_and (pe_cmpR op_gt (pv 6) pe_int (nomark _)) (pe_one (pe_cmpR (op_notIn2 hv) (pe_ix ix_seq (pe_ix ix_seq (pv 0) pe_int (fun _ _ => rfl)) (pe_op op_sub (pv 6) pe_int) (fun _ _ => rfl)) (pv 2) rfl))) pa_nil)) ip_add)
    (pss_one (ps_set (i := 3) nd rfl (Or.inl rfl) (pe_callB (call_max23 rfl) rfl b_max PyProof.Rows.boot_max (pa_cons (pv 3) (pa_cons (pe_op op_sub (pv 7) (pv 5)) pa_nil)))))))
    (pss_one (ps_ret (pv 3)))))
abbrev s__law_lies : Stmt := top 58
theorem sc__law_lies : FnScope n__law_lies p__law_lies (defScope s__law_lies) := ⟨rfl, rfl, rfl, by decide +kernel, rfl, by decide +kernel, by decide +kernel⟩
theorem w__law_lies {P : Program} {w : World} {K : PySem.W.Frag} {mg : Str → Option Value} {base : Heap} {f : Addr} {cdv : Value} {A : Around} {outer : List Env} {s : Shared} {H : Hp} {E : XK} {f__law_cuts f__law_least_of f__law_known_sizes : Sp}
    (hr : Room 2 (A.deeper (envOfC "_law_lies" (defScope s__law_lies) s.heap.objs.size f cdv))) (c__law_cuts : Cl P w K mg base 2 "_law_cuts" f__law_cuts) (c__law_least_of : Cl P w K mg base 2 "_law_least_of" f__law_least_of) (c__law_known_sizes : Cl P w K mg base 2 "_law_known_sizes" f__law_known_sizes) (b_enumerate : mg "enumerate" = none) :
    PSs (cxOf CX0 P w K mg base n__law_lies "_law_lies" (defScope s__law_lies) f cdv A outer s H E).nox (defBody s__law_lies) (t__law_lies K f__law_cuts f__law_least_of f__law_known_sizes) := by
  have hu := hr.units
  have hv : (A.deeper (envOfC "_law_lies" (defScope s__law_lies) s.heap.objs.size f cdv)).units + 65 < cLine := by have := hr.un; omega
  have nd := sc__law_lies.nd
  unfold t__law_lies
  exact (pss_cons (ps_if (pt_cmpR (op_neD hu) (pe_cl c__law_known_sizes hr (by decide) rfl (pa_cons (pv 0) pa_nil)) (pe_cl c__law_known_sizes hr (by decide) rfl (pa_cons (pv 1) pa_nil)) (nomark _)) (pss_one (ps_ret pe_bl)) pss_nil)
    (pss_cons (ps_for PassesOwn.never rfl (pi_enu1 rfl b_enumerate (pa_cons (pe_ix ix_seq (pv 1) pe_int (fun _ _ => rfl)) pa_nil)) (pg_tup rfl (pgs_cons (pg_name (i := 2) nd rfl (Or.inl rfl)) (pgs_cons (pg_name (i := 3) nd rfl (Or.inl rfl)) pgs_nil))) (pss_one (ps_for PassesOwn.never rfl (pi_seq (pe_cl c__law_cuts hr (by decide) rfl (pa_cons (pv 3) pa_nil))) (pg_name (i := 4) nd rfl (Or.inl rfl)) (pss_one (ps_if (pt_cmpR op_lt (pe_cl c__law_least_of hr (by decide) rfl (pa_cons (pv 0) (pa_cons (pv 2) (pa_cons (pe_slice sl_2 (pe_ix ix_seq (pv 1) pe_int (fun _ _ => rfl)) po_none (po_some (pv 4))) pa_nil)))) (pe_ix ix_seq (pv 3) (pv 4) (fun _ _ => rfl)) (nomark _)) (pss_one (ps_ret pe_bl)) pss_nil)))))
    (pss_one (ps_ret pe_bl))))
abbrev s__law_some_house : Stmt := top 59
theorem sc__law_some_house : FnScope n__law_some_house p__law_some_house (defScope s__law_some_house) := ⟨rfl, rfl, rfl, by decide +kernel, rfl, by decide +kernel, by decide +kernel⟩
theorem w__law_some_house {P : Program} {w : World} {K : PySem.W.Frag} {mg : Str → Option Value} {base : Heap} {f : Addr} {cdv : Value} {A : Around} {outer : List Env} {s : Shared} {H : Hp} {E : XK} {f__law_take f__law_house f__law_one : Sp}
    (hr : Room 4 (A.deeper (envOfC "_law_some_house" (defScope s__law_some_house) s.heap.objs.size f cdv))) (c__law_take : Cl P w K mg base 2 "_law_take" f__law_take) (c__law_house : Cl P w K mg base 4 "_law_house" f__law_house) (c__law_one : Cl P w K mg base 3 "_law_one" f__law_one)  :
    PSs (cxOf CX0 P w K mg base n__law_some_house "_law_some_house" (defScope s__law_some_house) f cdv A outer s H E).nox (defBody s__law_some_house) (t__law_some_house K f__law_take f__law_house f__law_one) := by
  have hu := hr.units
  have hv : (A.deeper (envOfC "_law_some_house" (defScope s__law_some_house) s.heap.objs.size f cdv)).units + 65 < cLine := by have := hr.un; omega
  have nd := sc__law_some_house.nd
  unfold t__law_some_house
  exact (pss_cons (ps_set (i := 2) nd rfl (Or.inl rfl) (pe_cl c__law_one hr (by decide) rfl (pa_cons (pv 0) (pa_cons (pv 1) pa_nil))))
    (pss_cons (ps_set (i := 3) nd rfl (Or.inl rfl) (pe_ifExp (pt_cmpR op_lt (pv 2) pe_int (nomark _)) (pe_cl c__law_house hr (by decide) rfl (pa_cons (pv 0) (pa_cons (pv 2) (pa_cons pe_int (pa_cons pe_int pa_nil))))) (pe_cl c__law_house hr (by decide) rfl (pa_cons (pv 0) (pa_cons (pv 2) (pa_cons pe_int (pa_cons pe_int pa_nil)))))))
    (pss_one (ps_ret (pe_ifExp (pt_cmpR op_gt (pe_cl c__law_take hr (by decide) rfl (pa_cons (pv 0) (pa_cons pe_int pa_nil))) pe_int (nomark _)) (pe_tupF (pa_cons (pe_op op_sub (pv 2) (pe_cl c__law_take hr (by decide) rfl (pa_cons (pv 0) (pa_cons pe_int pa_nil)))) (pa_cons (pe_ix ix_seq (pv 3) pe_int (fun _ _ => rfl)) pa_nil))) (pv 3))))))
abbrev s__law_is_small : Stmt := top 60
theorem sc__law_is_small : FnScope n__law_is_small p__law_is_small (defScope s__law_is_small) := ⟨rfl, rfl, rfl, by decide +kernel, rfl, by decide +kernel, by decide +kernel⟩
theorem w__law_is_small {P : Program} {w : World} {K : PySem.W.Frag} {mg : Str → Option Value} {base : Heap} {f : Addr} {cdv : Value} {A : Around} {outer : List Env} {s : Shared} {H : Hp} {E : XK}
    (hr : Room 1 (A.deeper (envOfC "_law_is_small" (defScope s__law_is_small) s.heap.objs.size f cdv)))  (b_sum : mg "sum" = none) (b_len : mg "len" = none) :
    PSs (cxOf CX0 P w K mg base n__law_is_small "_law_is_small" (defScope s__law_is_small) f cdv A outer s H E).nox (defBody s__law_is_small) (t__law_is_small K ) := by
  have hu := hr.units
  have hv : (A.deeper (envOfC "_law_is_small" (defScope s__law_is_small) s.heap.objs.size f cdv)).units + 65 < cLine := by have := hr.un; omega
  have nd := sc__law_is_small.nd
  unfold t__law_is_small
  exact (pss_one (ps_ret (pe_and (pe_cmpR op_lt (pe_ix ix_seq (pv 0) pe_int (fun _ _ => rfl)) pe_int (nomark _)) (pe_and (pe_cmpR op_lt (pe_callB (cr_sum2 rfl) rfl b_sum PyProof.Rows.boot_sum (pa_cons (pe_ix ix_seq (pv 0) pe_int (fun _ _ => rfl)) pa_nil)) pe_int (nomark _)) (pe_one (pe_cmpR op_lt (pe_callB call_len_seq rfl b_len PySem.boot_len (pa_cons (pe_ix ix_seq (pv 0) pe_int (fun _ _ => rfl)) pa_nil)) pe_int (nomark _)))))))
abbrev s__law_two_plain : Stmt := top 61
theorem sc__law_two_plain : FnScope n__law_two_plain p__law_two_plain (defScope s__law_two_plain) := ⟨rfl, rfl, rfl, by decide +kernel, rfl, by decide +kernel, by decide +kernel⟩
theorem w__law_two_plain {P : Program} {w : World} {K : PySem.W.Frag} {mg : Str → Option Value} {base : Heap} {f : Addr} {cdv : Value} {A : Around} {outer : List Env} {s : Shared} {H : Hp} {E : XK} {f__law_tightened f__law_known_sizes f__law_take f__law_mixed f__law_sizes f__law_state : Sp}
    (hr : Room 4 (A.deeper (envOfC "_law_two_plain" (defScope s__law_two_plain) s.heap.objs.size f cdv))) (c__law_tightened : Cl P w K mg base 2 "_law_tightened" f__law_tightened) (c__law_known_sizes : Cl P w K mg base 2 "_law_known_sizes" f__law_known_sizes) (c__law_take : Cl P w K mg base 2 "_law_take" f__law_take) (c__law_mixed : Cl P w K mg base 3 "_law_mixed" f__law_mixed) (c__law_sizes : Cl P w K mg base 3 "_law_sizes" f__law_sizes) (c__law_state : Cl P w K mg base 4 "_law_state" f__law_state) (b_range : mg "range" = none) (b_tuple : mg "tuple" = none) (b_len : mg "len" = none) (b_list : mg "list" = none) :
    PSs (cxOf CX0 P w K mg base n__law_two_plain "_law_two_plain" (defScope s__law_two_plain) f cdv A outer s H E).nox (defBody s__law_two_plain) (t__law_two_plain K f__law_tightened f__law_known_sizes f__law_take f__law_mixed f__law_sizes f__law_state) := by
  have hu := hr.units
  have hv : (A.deeper (envOfC "_law_two_plain" (defScope s__law_two_plain) s.heap.objs.size f cdv)).units + 65 < cLine := by have := hr.un; omega
  have nd := sc__law_two_plain.nd
  unfold t__law_two_plain
  exact (pss_cons (ps_par (i := 2) (j := 3) rfl nd rfl rfl (by decide) rfl rfl (pa_cons (pe_ix ix_seq (pv 1) pe_int (fun _ _ => rfl)) (pa_cons (pe_callTy call_tupleF rfl b_tuple PyProof.Rows.boot_tuple (pa_cons (pe_cl c__law_mixed hr (by decide) rfl (pa_cons (pv 0) (pa_cons (pe_listRg rfl rfl b_list (prg_1 rfl b_range (pe_ix ix_seq (pv 1) pe_int (fun _ _ => rfl)))) pa_nil))) pa_nil)) pa_nil)) rfl)
    (pss_cons (ps_set (i := 4) nd rfl (Or.inl rfl) (pe_lst (pa_cons (pe_cl c__law_state hr (by decide) rfl (pa_cons (pv 0) (pa_cons (pv 1) pa_nil))) (pa_cons (pe_cl c__law_state hr (by decide) rfl (pa_cons (pv 0) (pa_cons (pv 1) pa_nil))) (pa_cons (pe_op op_mul3 (pe_tupF (pa_cons (pe_callB call_len_seq rfl b_len PySem.boot_len (pa_cons (pe_ix ix_seq (pv 1) pe_int (fun _ _ => rfl)) pa_nil)) pa_nil)) (pv 2)) pa_nil)))))
    (pss_cons (ps_set (i := 5) nd rfl (Or.inl rfl) (pe_lst pa_nil))
    (pss_cons (ps_for PassesOwn.never rfl (pi_seq (pe_slice sl_2 (pe_cl c__law_mixed hr (by decide) rfl (pa_cons (pv 0) (pa_cons (pv 4) pa_nil))) po_none (po_some pe_int))) (pg_name (i := 6) nd rfl (Or.inl rfl)) (pss_one (ps_expr (pe_bm PySem.F.plainAttrs_list PySem.F.slot_list_append PySem.F.type_list_append mt_append (pv 5) (pa_cons (pe_tupF (pa_cons (pv 3) (pa_cons (pe_cl c__law_tightened hr (by decide) rfl (pa_cons (pe_op op_mul3 (pe_tupF (pa_cons (pe_op op_mul3 (pe_tupF (pa_cons pe_int pa_nil)) (pe_op op_add3 (pv 2) pe_int)) pa_nil)) (pe_callB call_len_seq rfl b_len PySem.boot_len (pa_cons (pe_ix ix_seq (pv 1) pe_int (fun _ _ => rfl)) pa_nil))) (pa_cons (pe_cl c__law_sizes hr (by decide) rfl (pa_cons (pv 1) (pa_cons (pv 6) pa_nil))) pa_nil))) pa_nil))) pa_nil)))))
    (pss_cons (ps_if (PW.pt (pw_or (pt_cmpR (op_eqD hu) (pe_cl c__law_take hr (by decide) rfl (pa_cons (pv 0) (pa_cons pe_int pa_nil))) pe_int (nomark _)) (pw_or1 (pt_cmpR op_lt (pv 2) pe_int (nomark _))))) (pss_one (ps_ret (pe_tupF (pa_cons (pe_ix ix_seq (pv 5) pe_int (fun _ _ => rfl)) (pa_cons (pe_ix ix_seq (pv 5) pe_int (fun _ _ => rfl)) pa_nil))))) pss_nil)
    (pss_cons (ps_par (i := 7) (j := 8) rfl nd rfl rfl (by decide) rfl rfl (pa_cons (pe_lst pa_nil) (pa_cons (pe_cl c__law_known_sizes hr (by decide) rfl (pa_cons (pe_ix ix_seq (pv 5) pe_int (fun _ _ => rfl)) pa_nil)) pa_nil)) rfl)
    (pss_cons (ps_for PassesOwn.never rfl (pi_seq (pe_tupF (pa_cons pe_int (pa_cons pe_int pa_nil)))) (pg_name (i := 9) nd rfl (Or.inr rfl)) (pss_cons (ps_set (i := 10) nd rfl (Or.inl rfl) (pe_callTy call_tupleF rfl b_tuple PyProof.Rows.boot_tuple (pa_cons (pe_op op_mul3 (pe_lst (pa_cons (pe_callTy call_tupleF rfl b_tuple PyProof.Rows.boot_tuple (pa_cons (pe_lc (own := [("_law_count", 12)]) (g := (gName 12)) (tt := tYes) rfl nd (pi_range1 rfl b_range (pa_cons (pe_op op_add3 (pv 2) pe_int) pa_nil)) (blkOk_by (N := n__law_two_plain) (sc := defScope s__law_two_plain) (by decide +kernel)) (fun _ _ _ _ _ => (pg_name (i := 12) nd rfl (by first | exact Or.inl rfl | exact Or.inr rfl))) (fun _ _ _ _ _ => pts_nil) (fun _ _ _ _ _ => (pe_ifExp (pt_cmpR (op_eqD hu) (pv 12) pe_int (nomark _)) (pv 9) pe_int))) pa_nil)) pa_nil)) (pe_callB call_len_seq rfl b_len PySem.boot_len (pa_cons (pv 8) pa_nil))) pa_nil)))
    (pss_cons (ps_set (i := 11) nd rfl (Or.inl rfl) (pe_cl c__law_tightened hr (by decide) rfl (pa_cons (pv 10) (pa_cons (pv 8) pa_nil))))
    (pss_one (ps_expr (pe_bm PySem.F.plainAttrs_list PySem.F.slot_list_append PySem.F.type_list_append mt_append (pv 7) (pa_cons (pe_ifExp (pt_cmpR op_isN (pv 11) pe_non (nomark _)) (pe_ix ix_seq (pv 5) pe_int (fun _ _ => rfl)) (pe_tupF (pa_cons (pv 3) (pa_cons (pv 11) pa_nil)))) pa_nil)))))))
    (pss_one (ps_ret (pe_tupF (pa_cons (pe_ix ix_seq (pv 7) pe_int (fun _ _ => rfl)) (pa_cons (pe_ix ix_seq (pv 7) pe_int (fun _ _ => rfl)) pa_nil))))))))))))
end FK

/-! FkW: the walks: each body is its term. Printed by gen.py. -/
namespace FK
open PySem PyProof.Rows L2
abbrev s__law_alike : Stmt := top 25
theorem sc__law_alike : FnScope n__law_alike p__law_alike (defScope s__law_alike) := ⟨rfl, rfl, rfl, by decide +kernel, rfl, by decide +kernel, by decide +kernel⟩
theorem w__law_alike {P : Program} {w : World} {K : PySem.W.Frag} {mg : Str → Option Value} {base : Heap} {f : Addr} {cdv : Value} {A : Around} {outer : List Env} {s : Shared} {H : Hp} {E : XK}
    (gd : A.guards = some []) (hr : Room 1 (A.deeper (envOfC "_law_alike" (defScope s__law_alike) s.heap.objs.size f cdv)))  (b_repr : mg "repr" = none) :
    PSs (cxOf CX0 P w K mg base n__law_alike "_law_alike" (defScope s__law_alike) f cdv A outer s H E).nox (defBody s__law_alike) (t__law_alike K ) := by
  have hu := hr.units
  have hv : (A.deeper (envOfC "_law_alike" (defScope s__law_alike) s.heap.objs.size f cdv)).units + 65 < cLine := by have := hr.un; omega
  have nd := sc__law_alike.nd
  unfold t__law_alike
  exact (pss_one (ps_ret (pe_and (pe_cmpR (op_eqD hu) (pv 0) (pv 1) (nomark _)) (pe_one (pe_cmpR op_eq (pe_callB (call_reprD gd hr) rfl b_repr PyProof.Rows.boot_repr (pa_cons (pv 0) pa_nil)) (pe_callB (call_reprD gd hr) rfl b_repr PyProof.Rows.boot_repr (pa_cons (pv 1) pa_nil)) (nomark _))))))
abbrev s_law : Stmt := top 62
theorem sc_law : FnScope n_law p_law (defScope s_law) := ⟨rfl, rfl, rfl, by decide +kernel, rfl, by decide +kernel, by decide +kernel⟩
theorem w_law {P : Program} {w : World} {K : PySem.W.Frag} {mg : Str → Option Value} {base : Heap} {f : Addr} {cdv : Value} {A : Around} {outer : List Env} {s : Shared} {H : Hp} {E : XK} {f__law_known_sizes f_blocks_of f_normal_of f__law_alike f_lies_in f_alike f__law_is_small f__law_all_states f__law_mixed f_fits f__law_states_that_fit f__law_lies f__law_blocks f__law_two_plain f__law_some_known f__law_take f__law_two_knowns f__law_some_house f__law_bag : Sp}
    (gd : A.guards = some []) (hr : Room 9 (A.deeper (envOfC "law" (defScope s_law) s.heap.objs.size f cdv))) (c__law_known_sizes : Cl P w K mg base 2 "_law_known_sizes" f__law_known_sizes) (c_blocks_of : Cl P w K mg base 3 "blocks_of" f_blocks_of) (c_normal_of : Cl P w K mg base 3 "normal_of" f_normal_of) (c__law_alike : ClG P w K mg base 2 "_law_alike" f__law_alike) (c_lies_in : Cl P w K mg base 6 "lies_in" f_lies_in) (c_alike : Cl P w K mg base 4 "alike" f_alike) (c__law_is_small : Cl P w K mg base 2 "_law_is_small" f__law_is_small) (c__law_all_states : Cl P w K mg base 2 "_law_all_states" f__law_all_states) (c__law_mixed : Cl P w K mg base 3 "_law_mixed" f__law_mixed) (c_fits : Cl P w K mg base 4 "fits" f_fits) (c__law_states_that_fit : Cl P w K mg base 5 "_law_states_that_fit" f__law_states_that_fit) (c__law_lies : Cl P w K mg base 3 "_law_lies" f__law_lies) (c__law_blocks : Cl P w K mg base 3 "_law_blocks" f__law_blocks) (c__law_two_plain : Cl P w K mg base 5 "_law_two_plain" f__law_two_plain) (c__law_some_known : Cl P w K mg base 8 "_law_some_known" f__law_some_known) (c__law_take : Cl P w K mg base 2 "_law_take" f__law_take) (c__law_two_knowns : Cl P w K mg base 9 "_law_two_knowns" f__law_two_knowns) (c__law_some_house : Cl P w K mg base 5 "_law_some_house" f__law_some_house) (c__law_bag : Cl P w K mg base 2 "_law_bag" f__law_bag) (b_range : mg "range" = none) (b_repr : mg "repr" = none) :
    PSs (cxOf CX0 P w K mg base n_law "law" (defScope s_law) f cdv A outer s H E).nox (defBody s_law) (t_law K f__law_known_sizes f_blocks_of f_normal_of f__law_alike f_lies_in f_alike f__law_is_small f__law_all_states f__law_mixed f_fits f__law_states_that_fit f__law_lies f__law_blocks f__law_two_plain f__law_some_known f__law_take f__law_two_knowns f__law_some_house f__law_bag) := by
  have hu := hr.units
  have hv : (A.deeper (envOfC "law" (defScope s_law) s.heap.objs.size f cdv)).units + 65 < cLine := by have := hr.un; omega
  have nd := sc_law.nd
  unfold t_law
  exact (pss_cons (ps_set (i := 1) nd rfl (Or.inl rfl) (pe_cl c__law_bag hr (by decide) rfl (pa_cons (pv 0) pa_nil)))
    (pss_cons (ps_for PassesOwn.never rfl (pi_range1 rfl b_range (pa_cons pe_int pa_nil)) (pg_name (i := 2) nd rfl (Or.inl rfl)) (pss_cons (ps_set (i := 3) nd rfl (Or.inl rfl) (pe_cl c__law_some_house hr (by decide) rfl (pa_cons (pv 1) (pa_cons (pe_lst (pa_cons pe_int (pa_cons pe_int (pa_cons pe_int (pa_cons pe_int pa_nil))))) pa_nil))))
    (pss_cons (ps_asg (pe_cl c__law_two_knowns hr (by decide) rfl (pa_cons (pv 1) (pa_cons (pv 3) pa_nil))) (pg_tup rfl (pgs_cons (pg_name (i := 4) nd rfl (Or.inl rfl)) (pgs_cons (pg_name (i := 5) nd rfl (Or.inl rfl)) pgs_nil))))
    (pss_cons (ps_set (i := 6) nd rfl (Or.inl rfl) (pe_cl c__law_take hr (by decide) rfl (pa_cons (pv 1) (pa_cons pe_int pa_nil))))
    (pss_cons (ps_if (pt_cmpR (op_eqD hu) (pv 6) pe_int (nomark _)) (pss_one (ps_set (i := 5) nd rfl (Or.inl rfl) (pe_cl c__law_some_known hr (by decide) rfl (pa_cons (pv 1) (pa_cons (pv 3) pa_nil))))) pss_nil)
    (pss_cons (ps_if (pt_cmpR (op_eqD hu) (pv 6) pe_int (nomark _)) (pss_one (ps_asg (pe_cl c__law_two_plain hr (by decide) rfl (pa_cons (pv 1) (pa_cons (pv 3) pa_nil))) (pg_tup rfl (pgs_cons (pg_name (i := 4) nd rfl (Or.inl rfl)) (pgs_cons (pg_name (i := 5) nd rfl (Or.inl rfl)) pgs_nil))))) pss_nil)
    (pss_cons (ps_par (i := 7) (j := 8) rfl nd rfl rfl (by decide) rfl rfl (pa_cons (pe_callB (call_reprD gd hr) rfl b_repr PyProof.Rows.boot_repr (pa_cons (pe_lst (pa_cons (pv 4) (pa_cons (pv 5) pa_nil))) pa_nil)) (pa_cons (pe_and (pe_cmpR (op_eqD hu) (pe_cl c__law_blocks hr (by decide) rfl (pa_cons (pv 4) pa_nil)) (pe_cl c__law_blocks hr (by decide) rfl (pa_cons (pv 5) pa_nil)) (nomark _)) (pe_one (pe_cmpR (op_eqD hu) (pe_cl c__law_known_sizes hr (by decide) rfl (pa_cons (pv 4) pa_nil)) (pe_cl c__law_known_sizes hr (by decide) rfl (pa_cons (pv 5) pa_nil)) (nomark _)))) pa_nil)) rfl)
    (pss_cons (ps_set (i := 9) nd rfl (Or.inl rfl) (pe_lst (pa_cons (pe_cl c__law_lies hr (by decide) rfl (pa_cons (pv 4) (pa_cons (pv 5) pa_nil))) (pa_cons (pe_cl c__law_lies hr (by decide) rfl (pa_cons (pv 5) (pa_cons (pv 4) pa_nil))) pa_nil))))
    (pss_cons (ps_if (pt_val (pe_cl c__law_is_small hr (by decide) rfl (pa_cons (pv 3) pa_nil))) (pss_cons (ps_set (i := 10) nd rfl (Or.inr rfl) (pe_lst (pa_cons (pe_cl c__law_states_that_fit hr (by decide) rfl (pa_cons (pv 3) (pa_cons (pv 4) pa_nil))) (pa_cons (pe_cl c__law_states_that_fit hr (by decide) rfl (pa_cons (pv 3) (pa_cons (pv 5) pa_nil))) pa_nil))))
    (pss_cons (ps_if (pt_cmpR (op_neD hu) (pv 9) (pe_lst (pa_cons (pe_cmpR (op_eqD hu) (pe_lc (own := [("_law_state_here", 11)]) (g := (gName 11)) (tt := (tTest (tOp (rNotIn2 K) (tVar 11) (tOp (rIx K) (tVar 10) (tC (.int 1)))))) rfl nd (pi_seq (pe_ix ix_seq (pv 10) pe_int (fun _ _ => rfl))) (blkOk_by (N := n_law) (sc := defScope s_law) (by decide +kernel)) (fun _ _ _ _ _ => (pg_name (i := 11) nd rfl (by first | exact Or.inl rfl | exact Or.inr rfl))) (fun _ _ _ _ _ => pts_one (pt_cmpR (op_notIn2 hv) (pv 11) (pe_ix ix_seq (pv 10) pe_int (fun _ _ => rfl)) rfl)) (fun _ _ _ _ _ => pe_int)) (pe_lst pa_nil) (nomark _)) (pa_cons (pe_cmpR (op_eqD hu) (pe_lc (own := [("_law_state_here", 11)]) (g := (gName 11)) (tt := (tTest (tOp (rNotIn2 K) (tVar 11) (tOp (rIx K) (tVar 10) (tC (.int 0)))))) rfl nd (pi_seq (pe_ix ix_seq (pv 10) pe_int (fun _ _ => rfl))) (blkOk_by (N := n_law) (sc := defScope s_law) (by decide +kernel)) (fun _ _ _ _ _ => (pg_name (i := 11) nd rfl (by first | exact Or.inl rfl | exact Or.inr rfl))) (fun _ _ _ _ _ => pts_one (pt_cmpR (op_notIn2 hv) (pv 11) (pe_ix ix_seq (pv 10) pe_int (fun _ _ => rfl)) rfl)) (fun _ _ _ _ _ => pe_int)) (pe_lst pa_nil) (nomark _)) pa_nil))) (nomark _)) (pss_one (ps_ret pe_bl)) pss_nil)
    (pss_one (ps_for PassesOwn.never rfl (pi_seq (pe_slice sl_2 (pe_cl c__law_mixed hr (by decide) rfl (pa_cons (pv 1) (pa_cons (pe_cl c__law_all_states hr (by decide) rfl (pa_cons (pv 3) pa_nil)) pa_nil))) po_none (po_some pe_int))) (pg_name (i := 11) nd rfl (Or.inl rfl)) (pss_one (ps_if (pt_not (pt_val (pe_clG c__law_alike gd hr (by decide) rfl (pa_cons (pe_lst (pa_cons (pe_cl c_fits hr (by decide) rfl (pa_cons (pv 3) (pa_cons (pv 4) (pa_cons (pv 11) pa_nil)))) (pa_cons (pe_cl c_fits hr (by decide) rfl (pa_cons (pv 3) (pa_cons (pv 5) (pa_cons (pv 11) pa_nil)))) pa_nil))) (pa_cons (pe_lst (pa_cons (pe_cmpR (op_in2 hv) (pv 11) (pe_ix ix_seq (pv 10) pe_int (fun _ _ => rfl)) rfl) (pa_cons (pe_cmpR (op_in2 hv) (pv 11) (pe_ix ix_seq (pv 10) pe_int (fun _ _ => rfl)) rfl) pa_nil))) pa_nil))))) (pss_one (ps_ret pe_bl)) pss_nil)))))) pss_nil)
    (pss_cons (ps_if (pt_cmpR (op_neD hu) (pv 8) (pe_cmpR (op_eqD hu) (pv 9) (pe_lst (pa_cons pe_bl (pa_cons pe_bl pa_nil))) (nomark _)) (nomark _)) (pss_one (ps_ret pe_bl)) pss_nil)
    (pss_cons (ps_set (i := 12) nd rfl (Or.inl rfl) (pe_lst (pa_cons (pe_cl c_alike hr (by decide) rfl (pa_cons (pv 4) (pa_cons (pv 5) pa_nil))) (pa_cons (pe_cl c_alike hr (by decide) rfl (pa_cons (pv 5) (pa_cons (pv 4) pa_nil))) (pa_cons (pe_cl c_lies_in hr (by decide) rfl (pa_cons (pv 3) (pa_cons (pv 4) (pa_cons (pv 5) pa_nil)))) (pa_cons (pe_cl c_lies_in hr (by decide) rfl (pa_cons (pv 3) (pa_cons (pv 5) (pa_cons (pv 4) pa_nil)))) pa_nil))))))
    (pss_cons (ps_if (PW.pt (pw_or (pt_not (pt_val (pe_clG c__law_alike gd hr (by decide) rfl (pa_cons (pv 12) (pa_cons (pe_op op_add3 (pe_lst (pa_cons (pv 8) (pa_cons (pv 8) pa_nil))) (pv 9)) pa_nil))))) (pw_or1 (pt_not (pt_val (pe_clG c__law_alike gd hr (by decide) rfl (pa_cons (pe_lst (pa_cons (pe_cl c_alike hr (by decide) rfl (pa_cons (pv 4) (pa_cons (pv 4) pa_nil))) (pa_cons (pe_cl c_lies_in hr (by decide) rfl (pa_cons (pv 3) (pa_cons (pv 5) (pa_cons (pv 5) pa_nil)))) pa_nil))) (pa_cons (pe_lst (pa_cons pe_bl (pa_cons pe_bl pa_nil))) pa_nil)))))))) (pss_one (ps_ret pe_bl)) pss_nil)
    (pss_cons (ps_if (PW.pt (pw_or (pt_cmpR (op_neD hu) (pe_cmpR (op_eqD hu) (pe_cl c_normal_of hr (by decide) rfl (pa_cons (pv 4) pa_nil)) (pe_cl c_normal_of hr (by decide) rfl (pa_cons (pv 5) pa_nil)) (nomark _)) (pv 8) (nomark _)) (pw_or1 (pt_cmpR op_ne (pe_callB (call_reprD gd hr) rfl b_repr PyProof.Rows.boot_repr (pa_cons (pe_lst (pa_cons (pv 4) (pa_cons (pv 5) pa_nil))) pa_nil)) (pv 7) (nomark _))))) (pss_one (ps_ret pe_bl)) pss_nil)
    (pss_one (ps_if (PW.pt (pw_and (pt_cmpR (op_eqD hu) (pe_cl c__law_known_sizes hr (by decide) rfl (pa_cons (pv 4) pa_nil)) (pe_cl c__law_known_sizes hr (by decide) rfl (pa_cons (pv 5) pa_nil)) (nomark _)) (pw_and1 (pt_cmpR (op_neD hu) (pe_cmpR (op_eqD hu) (pe_cl c_blocks_of hr (by decide) rfl (pa_cons (pv 4) pa_nil)) (pe_cl c_blocks_of hr (by decide) rfl (pa_cons (pv 5) pa_nil)) (nomark _)) (pv 8) (nomark _))))) (pss_one (ps_ret pe_bl)) pss_nil)))))))))))))))
    (pss_one (ps_ret pe_bl))))
end FK

/-! FkW: the walks: each body is its term. Printed by gen.py. -/
namespace FK
open PySem PyProof.Rows L2
abbrev s__law_first_known : Stmt := top 39
theorem sc__law_first_known : FnScope n__law_first_known p__law_first_known (defScope s__law_first_known) := ⟨rfl, rfl, rfl, by decide +kernel, rfl, by decide +kernel, by decide +kernel⟩
theorem w__law_first_known {P : Program} {w : World} {K : PySem.W.Frag} {mg : Str → Option Value} {base : Heap} {f : Addr} {T : Addr × Str} {c : Addr} {A : Around} {outer : List Env} {s : Shared} {H : Hp} {E : XK} {f__law_sizes f__law_rooms_within : Sp}
    (TB : LamX.TabB base mg c T.1) (hq : ("_law_first_known.<locals>." : Str) ++ "<lambda>" = T.2) (hr : Room 3 (A.deeper (envOfC "_law_first_known" (defScope s__law_first_known) s.heap.objs.size f (.ref c)))) (c__law_sizes : Cl P w K mg base 3 "_law_sizes" f__law_sizes) (c__law_rooms_within : Cl P w K mg base 2 "_law_rooms_within" f__law_rooms_within) (b_tuple : mg "tuple" = none) (b_range : mg "range" = none) (b_min : mg "min" = none) (b_sorted : mg "sorted" = none) (b_max : mg "max" = none) :
    PSs (cxOf CX0 P w K mg base n__law_first_known "_law_first_known" (defScope s__law_first_known) f (.ref c) A outer s H E).nox (defBody s__law_first_known) (t__law_first_known K T f__law_sizes f__law_rooms_within) := by
  have hu := hr.units
  have hv : (A.deeper (envOfC "_law_first_known" (defScope s__law_first_known) s.heap.objs.size f (.ref c))).units + 65 < cLine := by have := hr.un; omega
  have nd := sc__law_first_known.nd
  unfold t__law_first_known
  exact (pss_cons (ps_asg (pe_tupF (pa_cons (pe_ix ix_seq (pv 0) pe_int (fun _ _ => rfl)) (pa_cons (pe_lst pa_nil) pa_nil))) (pg_tup rfl (pgs_cons (pg_name (i := 2) nd rfl (Or.inr rfl)) (pgs_cons (pg_name (i := 3) nd rfl (Or.inl rfl)) pgs_nil))))
    (pss_cons (ps_if (pt_cmpR op_isN (pv 1) pe_non (nomark _)) (pss_cons (ps_for PassesOwn.never rfl (pi_seq (pe_cl c__law_rooms_within hr (by decide) rfl (pa_cons (pv 0) pa_nil))) (pg_name (i := 4) nd rfl (Or.inr rfl)) (pss_one (ps_expr (pe_bm PySem.F.plainAttrs_list PySem.F.slot_list_append PySem.F.type_list_append mt_append (pv 3) (pa_cons (pe_callTy call_tupleF rfl b_tuple PyProof.Rows.boot_tuple (pa_cons (pe_lc (own := [("_law_count", 7)]) (g := (gName 7)) (tt := tYes) rfl nd (pi_range1 rfl b_range (pa_cons (pe_op op_add3 (pv 2) pe_int) pa_nil)) (blkOk_by (N := n__law_first_known) (sc := defScope s__law_first_known) (by decide +kernel)) (fun _ _ _ _ _ => (pg_name (i := 7) nd rfl (by first | exact Or.inl rfl | exact Or.inr rfl))) (fun _ _ _ _ _ => pts_nil) (fun _ _ _ _ _ => (pe_callB (call_max23 rfl) rfl b_max PyProof.Rows.boot_max (pa_cons pe_int (pa_cons (pe_op op_sub (pv 4) (pe_op op_sub (pv 2) (pv 7))) pa_nil))))) pa_nil)) pa_nil)))))
    (pss_one (ps_ret (pe_tupF (pa_cons (pe_tupRgF rfl rfl b_tuple (prg_1 rfl b_range (pv 2))) (pa_cons (pe_callTy call_tupleF rfl b_tuple PyProof.Rows.boot_tuple (pa_cons (pv 3) pa_nil)) pa_nil)))))) pss_nil)
    (pss_cons (ps_set (i := 5) nd rfl (Or.inl rfl) (pe_callTy call_tupleF rfl b_tuple PyProof.Rows.boot_tuple (pa_cons (pe_sk (T := T) (c := c) (iN := 2) (iS := 1) rfl hr rfl b_sorted rfl b_range rfl (Or.inr (Or.inl rfl)) rfl rfl TB rfl hq) pa_nil)))
    (pss_cons (ps_for PassesOwn.never rfl (pi_seq (pe_cl c__law_sizes hr (by decide) rfl (pa_cons (pv 0) (pa_cons (pv 1) pa_nil)))) (pg_name (i := 6) nd rfl (Or.inr rfl)) (pss_one (ps_expr (pe_bm PySem.F.plainAttrs_list PySem.F.slot_list_append PySem.F.type_list_append mt_append (pv 3) (pa_cons (pe_callTy call_tupleF rfl b_tuple PyProof.Rows.boot_tuple (pa_cons (pe_lc (own := [("_law_count", 7)]) (g := (gName 7)) (tt := tYes) rfl nd (pi_range1 rfl b_range (pa_cons (pe_op op_add3 (pv 2) pe_int) pa_nil)) (blkOk_by (N := n__law_first_known) (sc := defScope s__law_first_known) (by decide +kernel)) (fun _ _ _ _ _ => (pg_name (i := 7) nd rfl (by first | exact Or.inl rfl | exact Or.inr rfl))) (fun _ _ _ _ _ => pts_nil) (fun _ _ _ _ _ => (pe_callB (call_min23 rfl) rfl b_min PyProof.Rows.boot_min (pa_cons (pv 7) (pa_cons (pv 6) pa_nil))))) pa_nil)) pa_nil)))))
    (pss_one (ps_ret (pe_tupF (pa_cons (pv 5) (pa_cons (pe_callTy call_tupleF rfl b_tuple PyProof.Rows.boot_tuple (pa_cons (pv 3) pa_nil)) pa_nil)))))))))
end FK

/-! FkC: data of the law, contracts. -/
namespace FK
open PySem PySem.Spec PyProof.Rows L2
abbrev tI (ns : List Int) : D := .tuple (ns.map .int)
abbrev lI (ns : List Int) : D := .list (ns.map .int)
abbrev wsD (ws : List (List Int)) : D := .tuple (ws.map tI)
abbrev Know := List Int × List (List Int)
abbrev kD (k : Know) : D := .tuple [tI k.1, wsD k.2]
abbrev House := Int × List Int
abbrev hD (h : House) : D := .tuple [.int h.1, tI h.2]
/-- small enough for all lines -/
abbrev sm (n : Nat) : Prop := n ≤ 100000
theorem sm_lt {n : Nat} (h : n ≤ 100000) : n < sizeLine := by rw [sizeLine_eq]; omega
theorem atI_lt {α : Type} {l : List α} {i : Nat} {a : α} (h : l[i]? = some a) : atI l (i : Int) = some a := by
  unfold atI
  rw [ixN_nat (List.getElem?_eq_some_iff.mp h).1]
  exact h
theorem atI_map {α β : Type} {l : List α} {f : α → β} {i : Nat} {a : α} (h : l[i]? = some a) : atI (l.map f) (i : Int) = some (f a) := atI_lt (by rw [List.getElem?_map, h]; rfl)
/-- the last -/
theorem atI_last {α : Type} {l : List α} {a : α} (h : l.getLast? = some a) : atI l (-1) = some a := by
  unfold atI ixN
  rw [List.getLast?_eq_getElem?] at h
  have h1 := (List.getElem?_eq_some_iff.mp h).1
  rw [if_neg (by omega), if_pos (by omega)]
  have e : ((-1 : Int) + (l.length : Nat)).toNat = l.length - 1 := by omega
  first | rw [e]; exact h | (show l[((-1 : Int) + (l.length : Nat)).toNat]? = _; rw [e]; exact h)
theorem zi {α : Type} {l : List α} {i : Nat} {a : α} {j : Nat} (h : l.zipIdx[i]? = some (a, j)) : l[i]? = some a ∧ j = i := by
  rw [List.getElem?_zipIdx] at h
  cases e : l[i]? with
  | none => rw [e] at h; cases h
  | some b =>
    rw [e] at h
    cases h
    exact ⟨rfl, by omega⟩
theorem set_map {α β : Type} {f : α → β} {l : List α} {i : Nat} {a : α} : (l.map f).set i (f a) = (l.set i a).map f := (List.map_set).symm
theorem take_snoc {α : Type} {l : List α} {i : Nat} {a : α} (h : l[i]? = some a) : l.take (i + 1) = l.take i ++ [a] := by
  rw [List.take_add_one, h]
  rfl
theorem cnt_snoc (p : Int → Bool) {l : List Int} {i : Nat} {a : Int} (h : l[i]? = some a) : (((l.take (i + 1)).countP p : Nat) : Int) = ((l.take i).countP p : Nat) + (if p a = true then 1 else 0) := by
  rw [take_snoc h, List.countP_append, List.countP_singleton]
  split <;> simp
/-! ### encodings that tell their things apart -/
structure Faith {α : Type} [DecidableEq α] (n : Nat) (e : α → D) : Prop where
  eq : ∀ a b, PyData.eqv (e a) (e b) = decide (a = b)
  lay : ∀ a, PyData.canLay0 (e a) = true ∧ PyData.depth (e a) ≤ n
section
variable {α β : Type} [DecidableEq α] [DecidableEq β] {n m : Nat} {e : α → D} {e' : β → D}
theorem Faith.mono (F : Faith n e) (h : n ≤ m) : Faith m e := ⟨F.eq, fun a => ⟨(F.lay a).1, Nat.le_trans (F.lay a).2 h⟩⟩
theorem Faith.int : Faith 0 PyData.int := ⟨eqv_int, fun a => ⟨rfl, Nat.le_refl _⟩⟩
theorem Faith.bool : Faith 0 PyData.bool := ⟨fun a b => by cases a <;> cases b <;> rfl, fun a => ⟨rfl, Nat.le_refl _⟩⟩
theorem Faith.all (F : Faith n e) : (∀ l l' : List α, PyData.eqvAll (l.map e) (l'.map e) = decide (l = l')) ∧ ∀ l : List α, PyData.canLayAll0 (l.map e) = true ∧ PyData.depthAll (l.map e) ≤ n := by
  refine ⟨fun l => ?_, fun l => ?_⟩
  · induction l with
    | nil => intro l'; cases l' <;> simp [PyData.eqvAll]
    | cons a l ih =>
      intro l'
      cases l' with
      | nil => simp [PyData.eqvAll]
      | cons b l' =>
        show (PyData.eqv (e a) (e b) && PyData.eqvAll (l.map e) (l'.map e)) = _
        rw [F.eq, ih]
        by_cases h1 : a = b <;> by_cases h2 : l = l' <;> simp [h1, h2]
  · induction l with
    | nil => exact ⟨rfl, Nat.zero_le _⟩
    | cons a l ih =>
      show (PyData.canLay0 (e a) && PyData.canLayAll0 (l.map e)) = true ∧ max (PyData.depth (e a)) (PyData.depthAll (l.map e)) ≤ n
      rw [(F.lay a).1, ih.1]
      exact ⟨rfl, Nat.max_le.mpr ⟨(F.lay a).2, ih.2⟩⟩
theorem Faith.tup (F : Faith n e) : Faith (n + 1) (fun l : List α => PyData.tuple (l.map e)) := ⟨fun l l' => by rw [← F.all.1]; rw [PyData.eqv], fun l => ⟨by rw [PyData.canLay0]; exact (F.all.2 l).1, by rw [PyData.depth]; exact Nat.succ_le_succ (F.all.2 l).2⟩⟩
theorem Faith.lst (F : Faith n e) : Faith (n + 1) (fun l : List α => PyData.list (l.map e)) := ⟨fun l l' => by rw [← F.all.1]; rw [PyData.eqv], fun l => ⟨by rw [PyData.canLay0]; exact (F.all.2 l).1, by rw [PyData.depth]; exact Nat.succ_le_succ (F.all.2 l).2⟩⟩
theorem Faith.pr (F : Faith n e) (F' : Faith n e') : Faith (n + 1) (fun p : α × β => PyData.tuple [e p.1, e' p.2]) := by
  refine ⟨fun a b => ?_, fun a => ?_⟩
  · show (PyData.eqv (e a.1) (e b.1) && (PyData.eqv (e' a.2) (e' b.2) && true)) = _
    rw [F.eq, F'.eq]
    obtain ⟨a1, a2⟩ := a
    obtain ⟨b1, b2⟩ := b
    by_cases h1 : a1 = b1 <;> by_cases h2 : a2 = b2 <;> simp [h1, h2]
  · constructor
    · show (PyData.canLay0 (e a.1) && (PyData.canLay0 (e' a.2) && true)) = true
      rw [(F.lay a.1).1, (F'.lay a.2).1]
      rfl
    · show max (PyData.depth (e a.1)) (max (PyData.depth (e' a.2)) 0) + 1 ≤ n + 1
      have h1 := (F.lay a.1).2
      have h2 := (F'.lay a.2).2
      omega
theorem Faith.shaped (F : Faith n e) (h : n ≤ 64) (a : α) : SeqAt.shaped (e a) = true := by
  unfold SeqAt.shaped
  rw [(F.lay a).1, Bool.true_and, decide_eq_true_eq]
  exact Nat.le_trans (F.lay a).2 h
theorem dEq_f (F : Faith n e) {a b : α} {R : D → Prop} (r : R (.bool (decide (a = b)))) (h : n ≤ 64 := by decide) : dEq (e a) (e b) R := ⟨F.shaped h a, F.shaped h b, by rw [F.eq]; exact r⟩
theorem dNe_f (F : Faith n e) {a b : α} {R : D → Prop} (r : R (.bool (!decide (a = b)))) (h : n ≤ 64 := by decide) : dNe (e a) (e b) R := ⟨F.shaped h a, F.shaped h b, by rw [F.eq]; exact r⟩
theorem dIn_f (F : Faith n e) {a : α} {l : List α} {R : D → Prop} (r : R (.bool (decide (a ∈ l)))) (h : n + 1 ≤ 64 := by decide) : dIn2 (e a) (.list (l.map e)) R := by
  refine .inr ⟨_, rfl, F.shaped (by omega) a, F.lst.shaped h l, ?_⟩
  have : ((l.map e).any fun z => PyData.eqv z (e a)) = decide (a ∈ l) := by
    clear r
    rw [List.any_map]
    induction l with
    | nil => rfl
    | cons b l ih =>
      rw [List.any_cons, ih]
      show (PyData.eqv (e b) (e a) || _) = _
      rw [F.eq]
      by_cases h1 : b = a
      · subst h1; simp
      · have h1' : ¬ a = b := fun z => h1 z.symm
        simp [h1, h1']
  rw [this]
  exact r
theorem dNotIn_f (F : Faith n e) {a : α} {l : List α} {R : D → Prop} (r : R (.bool (!decide (a ∈ l)))) (h : n + 1 ≤ 64 := by decide) : dNotIn2 (e a) (.list (l.map e)) R := by
  refine .inr ⟨_, rfl, F.shaped (by omega) a, F.lst.shaped h l, ?_⟩
  have : ((l.map e).any fun z => PyData.eqv z (e a)) = decide (a ∈ l) := by
    clear r
    rw [List.any_map]
    induction l with
    | nil => rfl
    | cons b l ih =>
      rw [List.any_cons, ih]
      show (PyData.eqv (e b) (e a) || _) = _
      rw [F.eq]
      by_cases h1 : b = a
      · subst h1; simp
      · have h1' : ¬ a = b := fun z => h1 z.symm
        simp [h1, h1']
  rw [this]
  exact r
end
theorem fTI : Faith 1 tI := Faith.int.tup
theorem fLI : Faith 1 lI := Faith.int.lst
theorem fWs : Faith 2 wsD := fTI.tup
theorem fK : Faith 3 kD := (fTI.mono (by decide)).pr fWs
/-! ### plain functions -/
/-- how many places of the state are at most f -/
def cnt (st : List Int) (f : Int) : Int := (st.countP (fun p => decide (p ≤ f)) : Nat)
def sizesL (m : Nat) (st : List Int) : List Int := (List.range m).map fun f => cnt st (f : Nat)
def ksz (k : Know) : List Int := k.2.map fun w => w.getLastD 0
/-- how many of l stand at most on floor f -/
def cntW (st : List Int) (f : Int) (l : List Int) : Int := (l.countP (fun t => decide (st.getD t.toNat 0 ≤ f)) : Nat)
/-- how many of l are in L -/
def cntI (L l : List Int) : Int := (l.countP (fun t => decide (t ∈ L)) : Nat)
def FitW (o : List Int) (st : List Int) (f : Int) (w : List Int) : Prop := ∀ i, i < o.length → w.getD (i + 1) 0 ≤ cntW st f (o.take (i + 1))
def Fits (m : Nat) (k : Know) (st : List Int) : Prop := sizesL m st = ksz k ∧ ∀ (f : Nat) (w : List Int), k.2[f]? = some w → FitW k.1 st f w
def MayB (o w L : List Int) : Prop := ∀ i, i < o.length → cntI L (o.take (i + 1)) ≤ (i + 1 : Nat) - w.getD (i + 1) 0
open Classical in
noncomputable def greedy (o w : List Int) (eager : List Int) : List Int := eager.foldl (fun b t => if MayB o w (b ++ [t]) then b ++ [t] else b) []
noncomputable def leftL (o w eager : List Int) : List Int := o.filter fun t => decide (t ∉ greedy o w eager)
def isCut (w : List Int) (p : Nat) : Bool := decide (w.getD (p - 1) 0 < w.getD p 0) && decide (w.getD p 0 = w.getD (p + 1) 0)
def cutsL (w : List Int) : List Nat := ((List.range (w.length - 2)).map (· + 1)).filter (isCut w)
abbrev Blk := List Int × Int
abbrev bD (b : Blk) : D := .tuple [tI b.1, .int b.2]
abbrev bsD (b : List Blk) : D := .tuple (b.map bD)
abbrev bssD (b : List (List Blk)) : D := .tuple (b.map bsD)
theorem fB : Faith 2 bD := fTI.pr (Faith.int.mono (by decide))
theorem fBs : Faith 3 bsD := fB.tup
theorem fBss : Faith 4 bssD := fBs.tup
def blkGo (o w : List Int) : Nat → List Nat → List Blk
  | _, [] => []
  | b, c :: cs => (srt ((o.drop b).take (c - b)), w.getD c 0) :: blkGo o w c cs
def blocks (k : Know) : List (List Blk) := k.2.map fun w => blkGo k.1 w 0 (cutsL w)
/-- the normal order -/
def nrmGo (o : List Int) (ws : List (List Int)) : Nat → List Nat → List Int
  | _, [] => []
  | b, p :: ps => if p = o.length ∨ (∃ w ∈ ws, p ∈ cutsL w) then srt ((o.drop b).take (p - b)) ++ nrmGo o ws p ps else nrmGo o ws b ps
/-! ### what is shown of a def on the data level -/
abbrev DOk (t : TS) (C : Ct) (N : List Str) (n : Nat) : Prop := ∀ a, C.pre a → ∀ M : Mx, SS M t ((C.args a).map SD.dat ++ slots N n) (fun _ => C.post a .none) ⟨C.post a, fun _ => False, fun _ => False⟩
abbrev DOkB (T : Addr × Str) (t : TS) (C : Ct) (N : List Str) (n : Nat) : Prop := ∀ a, C.pre a → ∀ M : Mx, M.B.tab = some T → SS M t (.bag :: ((C.args a).map SD.dat ++ slots N n)) (fun _ => C.post a .none) ⟨C.post a, fun _ => False, fun _ => False⟩
theorem getD_last {w : List Int} (h : w ≠ []) : w.getLast? = some (w.getLastD 0) := by
  rw [List.getLastD_eq_getLast?]
  cases e : w.getLast? with
  | none => exact absurd (List.getLast?_eq_none_iff.mp e) h
  | some x => rfl
theorem getD_some {l : List Int} {i : Nat} (h : i < l.length) : l[i]? = some (l.getD i 0) := by
  rw [List.getD_eq_getElem?_getD, List.getElem?_eq_getElem h]
  rfl
/-- an item by a natural place -/
theorem dIx_ti {l : List Int} {i : Int} {R : D → Prop} (h0 : 0 ≤ i) (h : i.toNat < l.length) (r : R (.int (l.getD i.toNat 0))) : dIx (tI l) (.int i) R := by
  have e : i = (i.toNat : Nat) := by omega
  refine dIx_tup (d := .int (l.getD i.toNat 0)) ?_ r
  rw [e, Int.toNat_natCast]
  exact atI_map (getD_some h)
theorem dIx_tin {l : List Int} {i : Nat} {R : D → Prop} (h : i < l.length) (r : R (.int (l.getD i 0))) : dIx (tI l) (.int (i : Int)) R := dIx_tup (atI_map (getD_some h)) r
theorem dIx_li {l : List Int} {i : Int} {R : D → Prop} (h0 : 0 ≤ i) (h : i.toNat < l.length) (r : R (.int (l.getD i.toNat 0))) : dIx (lI l) (.int i) R := by
  have e : i = (i.toNat : Nat) := by omega
  refine dIx_list (d := .int (l.getD i.toNat 0)) ?_ r
  rw [e, Int.toNat_natCast]
  exact atI_map (getD_some h)
/-- .. at the natural place j -/
theorem dIx_at {l : List Int} {i : Int} (j : Nat) {R : D → Prop} (e : i = (j : Nat)) (h : j < l.length) (r : R (.int (l.getD j 0))) : dIx (tI l) (.int i) R := by subst e; exact dIx_tin h r
theorem atI_get {l : List Int} {i : Int} (j : Nat) (e : i = (j : Nat)) (h : j < l.length) : atI (l.map PyData.int) i = some (.int (l.getD j 0)) := by subst e; exact atI_map (getD_some h)
end FK

namespace FK
open PySem PySem.Spec PyProof.Rows L2
/- one step of a reading: bv_omega stands for it here -/
local macro_rules | `(tactic| bv_omega) => `(tactic| first
  | with_reducible refine ss_seq ?_
  | with_reducible refine ss_ret ?_
  | with_reducible refine ss_next ?_
  | with_reducible refine wa_nil ?_
  | with_reducible refine wa_cons ?_
  | with_reducible refine we_var rfl ?_
  | with_reducible refine we_callC ?_
  | (with_reducible refine we_callBC ?_ rfl ?_; focus assumption)
  | (with_reducible refine we_callTC ?_ ?_; focus assumption)
  | with_reducible refine we_int ?_
  | with_reducible refine we_bl ?_
  | with_reducible refine we_non ?_
  | with_reducible refine we_str ?_
  | with_reducible refine wt_test ?_
  | with_reducible refine wt_B ?_
  | with_reducible refine wt_and ?_
  | with_reducible refine wt_or ?_
  | with_reducible refine wt_not ?_
  | with_reducible refine wt_yes ?_
  | with_reducible refine we_op rd_add3 ?_
  | with_reducible refine we_op rd_sub ?_
  | with_reducible refine we_op rd_mul3 ?_
  | with_reducible refine we_op rd_lt ?_
  | with_reducible refine we_op rd_le ?_
  | with_reducible refine we_op rd_gt ?_
  | with_reducible refine we_op rd_ge ?_
  | with_reducible refine we_op rd_mod ?_
  | with_reducible refine we_op rd_fdiv ?_
  | with_reducible refine we_op rd_pow ?_
  | with_reducible refine we_op rd_eq ?_
  | with_reducible refine we_op rd_ne ?_
  | with_reducible refine we_op rd_in2 ?_
  | with_reducible refine we_op rd_notIn2 ?_
  | with_reducible refine we_op rd_isN ?_
  | with_reducible refine we_op rd_notN ?_
  | with_reducible refine we_bag0 rfl ?_
  | with_reducible refine we_bag1 rfl ?_
  | with_reducible refine we_bag2 rfl ?_
  | with_reducible refine we_bag3 rfl ?_
  | with_reducible refine we_ixO rfl ?_
  | with_reducible refine we_op rd_ix ?_
  | with_reducible refine we_neg ?_
  | with_reducible refine we_sl rs_2 ?_
  | with_reducible refine wo_none ?_
  | with_reducible refine wo_some ?_
  | with_reducible refine we_andV ?_
  | with_reducible refine we_if ?_
  | with_reducible refine we_tupO rfl ?_
  | with_reducible refine we_lenO rfl ?_
  | with_reducible refine we_cntO rfl ?_
  | with_reducible refine we_cb rc_len ?_
  | with_reducible refine we_cb rc_tuple ?_
  | with_reducible refine we_cb rc_int ?_
  | with_reducible refine we_cb rc_abs ?_
  | with_reducible refine we_cb rc_max ?_
  | with_reducible refine we_cb rc_min ?_
  | with_reducible refine we_cb rc_sum ?_
  | with_reducible refine we_cb rc_sorted ?_
  | with_reducible refine we_cb rc_sortSet ?_
  | with_reducible refine we_cb rc_all ?_
  | with_reducible refine we_tup ?_
  | with_reducible refine we_tupRg ?_
  | with_reducible refine we_tidx ?_
  | with_reducible refine we_tcnt ?_
  | with_reducible refine we_of_wl (wl_lcL ?_)
  | with_reducible refine we_of_wl (wl_lst ?_)
  | with_reducible refine wj_of (wi_rng1 ?_)
  | with_reducible refine wj_of (wi_rng2 ?_)
  | with_reducible refine wj_seqO rfl ?_
  | with_reducible refine wj_enO rfl ?_
  | with_reducible refine wj_of (wi_seq ?_)
  | with_reducible refine wj_of (wi_en1 ?_)
  | with_reducible refine wj_of (wi_en2 ?_)
  | with_reducible refine wj_of (wi_zp ?_)
  | with_reducible refine wi_rng1 ?_
  | with_reducible refine wi_rng2 ?_
  | with_reducible refine wi_rng3 ?_
  | with_reducible refine wi_seq ?_
  | with_reducible refine wi_en1 ?_
  | with_reducible refine wi_en2 ?_
  | with_reducible refine wi_zp ?_
  | (with_reducible refine wg_name ?_ ?_; focus decide)
  | with_reducible refine wg_tup rfl ?_
  | with_reducible refine wgs_cons ?_
  | with_reducible refine wgs_nil ?_
  | with_reducible refine dI_mk ?_
  | with_reducible refine dAdd_int ?_
  | with_reducible refine dEq_int ?_
  | with_reducible refine dNe_int ?_
  | with_reducible refine dInt_int ?_
  | with_reducible refine dInt_bool ?_
  | with_reducible refine dM2 ?_
  | with_reducible refine dM3 ?_
  | with_reducible refine dSl_list ?_
  | with_reducible refine dSl_tup ?_
  | with_reducible refine dIx_tup rfl ?_
  | with_reducible refine dIx_list rfl ?_
  | with_reducible refine isSeq_list ?_
  | with_reducible refine isSeq_tup ?_
  | (with_reducible refine dz ?_ ?_; focus (simp; done))
  | refine ⟨_, rfl, ?_⟩
  | refine ⟨_, _, rfl, ?_⟩
  | refine ⟨_, _, rfl, rfl, ?_⟩)
/- slots forgotten: symm_saturate stands for it here -/
local macro_rules | `(tactic| symm_saturate) => `(tactic| (repeat (first | exact Le.nil | refine Le.eq ?_ | refine Le.no ?_)))

section
/-! FkD1: houses, words, fitting. -/
/-! things_within -/
abbrev C_things_within : Ct := ⟨D × List Int × Int, fun a => [a.1, tI a.2.1, .int a.2.2], fun a => sm a.2.1.length, fun a d => ∃ ns : List Int, d = tI ns ∧ (ns.length : Int) = cnt a.2.1 a.2.2⟩
theorem d_things_within {K : PySem.W.Frag} (a) (h : C_things_within.pre a) (M : Mx) : SS M (t_things_within K) ((C_things_within.args a).map SD.dat ++ slots n_things_within 3) (fun _ => C_things_within.post a .none) ⟨C_things_within.post a, fun _ => False, fun _ => False⟩ := by
  obtain ⟨x, st, f⟩ := a
  have h : st.length ≤ 100000 := h
  show SS M (t_things_within K) [.dat x, .dat (tI st), .dat (.int f), .no, .no] _ _
  unfold t_things_within
  repeat bv_omega
  refine lcOk st.zipIdx _ (enD_map0 st .int) (fun p => decide (p.1 ≤ f)) (fun p => .int (p.2 : Nat)) (sm_lt (by simpa using h)) (fun i p hp => ?_) ?_
  · dsimp only [prD, wipeD, List.set]
    repeat bv_omega
    refine ⟨rfl, fun _ => ?_⟩
    repeat bv_omega
  · repeat bv_omega
    refine ⟨((st.zipIdx.filter fun p => decide (p.1 ≤ f)).map fun p => (p.2 : Int)), ?_, ?_⟩
    · simp
    · unfold cnt
      rw [List.length_map, ← List.countP_eq_length_filter]
      congr 1
      have e : st = st.zipIdx.map Prod.fst := by simp
      conv => rhs; rw [e, List.countP_map]
      rfl
/-! sizes_of -/
abbrev C_sizes_of : Ct := ⟨House × List Int, fun a => [hD a.1, tI a.2], fun a => sm a.2.length ∧ sm a.1.2.length, fun a d => d = tI (sizesL a.1.2.length a.2)⟩
theorem d_sizes_of {K : PySem.W.Frag} (a) (h : C_sizes_of.pre a) (M : Mx) : SS M (t_sizes_of K (spP C_things_within)) ((C_sizes_of.args a).map SD.dat ++ slots n_sizes_of 2) (fun _ => C_sizes_of.post a .none) ⟨C_sizes_of.post a, fun _ => False, fun _ => False⟩ := by
  obtain ⟨⟨n, rooms⟩, st⟩ := a
  obtain ⟨h1, h2⟩ : st.length ≤ 100000 ∧ rooms.length ≤ 100000 := h
  show SS M (t_sizes_of K _) [.dat (hD (n, rooms)), .dat (tI st), .no] _ _
  unfold t_sizes_of
  repeat bv_omega
  refine ⟨by simp; omega, lcOkM (List.range rooms.length) (fun i => .int (i : Nat)) (by rw [rgD_map0]; simp) (fun i => .int (cnt st (i : Nat))) (sm_lt (by simpa using h2)) (fun i p hp => ?_) ?_⟩
  · dsimp only [wipeD, List.set]
    repeat bv_omega
    refine ⟨rfl, ?_⟩
    repeat bv_omega
    refine callOk (_, st, (p : Int)) rfl h1 ?_
    rintro d ⟨ns, rfl, hl⟩
    repeat bv_omega
    rw [List.length_map, hl]
  · repeat bv_omega
    show _ = _
    simp [sizesL]
/-! known_sizes -/
abbrev C_known_sizes : Ct := ⟨Know, fun a => [kD a], fun a => sm a.2.length ∧ ∀ w ∈ a.2, w ≠ [], fun a d => d = tI (ksz a)⟩
theorem d_known_sizes {K : PySem.W.Frag} (a) (h : C_known_sizes.pre a) (M : Mx) : SS M (t_known_sizes K) ((C_known_sizes.args a).map SD.dat ++ slots n_known_sizes 1) (fun _ => C_known_sizes.post a .none) ⟨C_known_sizes.post a, fun _ => False, fun _ => False⟩ := by
  obtain ⟨o, ws⟩ := a
  obtain ⟨h1, h2⟩ : ws.length ≤ 100000 ∧ ∀ w ∈ ws, w ≠ [] := h
  show SS M (t_known_sizes K) [.dat (kD (o, ws)), .no] _ _
  unfold t_known_sizes
  repeat bv_omega
  refine lcOkM ws tI rfl (fun w => .int (w.getLastD 0)) (sm_lt h1) (fun i w hw => ?_) ?_
  · dsimp only [wipeD, List.set]
    repeat bv_omega
    refine ⟨rfl, ?_⟩
    repeat bv_omega
    have hn : w ≠ [] := h2 w (List.mem_of_getElem? hw)
    have e := getD_last hn
    refine dIx_tup (atI_last (a := PyData.int (w.getLastD 0)) ?_) rfl
    rw [List.getLast?_map, e]
    rfl
  · repeat bv_omega
    show _ = _
    simp [ksz]
theorem d_law_known_sizes {K : PySem.W.Frag} (a) (h : C_known_sizes.pre a) (M : Mx) : SS M (t__law_known_sizes K) ((C_known_sizes.args a).map SD.dat ++ slots n__law_known_sizes 1) (fun _ => C_known_sizes.post a .none) ⟨C_known_sizes.post a, fun _ => False, fun _ => False⟩ := d_known_sizes a h M
/-! fits -/
abbrev C_fits : Ct := ⟨House × Know × List Int, fun a => [hD a.1, kD a.2.1, tI a.2.2], fun a => sm a.2.2.length ∧ sm a.1.2.length ∧ sm a.2.1.1.length ∧ sm a.2.1.2.length ∧ (∀ w ∈ a.2.1.2, w.length = a.2.1.1.length + 1) ∧ (∀ t ∈ a.2.1.1, 0 ≤ t ∧ t.toNat < a.2.2.length),
  fun a d => ∃ b, d = .bool b ∧ (b = true ↔ Fits a.1.2.length a.2.1 a.2.2)⟩
theorem d_fits {K : PySem.W.Frag} (a) (h : C_fits.pre a) (M : Mx) : SS M (t_fits K (spP C_sizes_of) (spP C_known_sizes)) ((C_fits.args a).map SD.dat ++ slots n_fits 3) (fun _ => C_fits.post a .none) ⟨C_fits.post a, fun _ => False, fun _ => False⟩ := by
  obtain ⟨⟨n, rooms⟩, ⟨o, ws⟩, st⟩ := a
  obtain ⟨h1, h2, h3, h4, h5, h6⟩ : st.length ≤ 100000 ∧ rooms.length ≤ 100000 ∧ o.length ≤ 100000 ∧ ws.length ≤ 100000 ∧ (∀ w ∈ ws, w.length = o.length + 1) ∧ (∀ t ∈ o, 0 ≤ t ∧ t.toNat < st.length) := h
  show SS M (t_fits K _ _) [.dat (hD (n, rooms)), .dat (kD (o, ws)), .dat (tI st), .no, .no, .no, .no, .no, .no, .no] _ _
  unfold t_fits
  repeat bv_omega
  with_reducible refine ss_asg (is := [3, 4]) ?_
  repeat bv_omega
  dsimp only [List.set]
  with_reducible refine ss_if ?_
  repeat bv_omega
  refine callOk ((n, rooms), st) rfl ⟨h1, h2⟩ ?_
  rintro d rfl
  repeat bv_omega
  refine callOk (o, ws) rfl ⟨h4, fun w hw e => by have := h5 w hw; rw [e] at this; cases this⟩ ?_
  rintro d rfl
  refine dNe_f fTI ?_
  repeat bv_omega
  refine ⟨fun hb => ?_, fun hb => ?_⟩
  · repeat bv_omega
    refine ⟨(fun z => nomatch z), fun z => ?_⟩
    simp at hb
    exact absurd z.1 hb
  · have hsz : sizesL rooms.length st = ksz (o, ws) := by simpa using hb
    repeat bv_omega
    with_reducible refine ss_setL (wl_rep ?_)
    repeat bv_omega
    refine ⟨by simp; omega, ?_⟩
    dsimp only [List.set]
    let cur (i j : Nat) : List Int := (List.range ws.length).map fun f => if f < j then cntW st f (o.take (i + 1)) else cntW st f (o.take i)
    let S (i : Nat) : List SD := [.dat (hD (n, rooms)), .dat (kD (o, ws)), .dat (tI st), .dat (tI o), .dat (wsD ws), .own ((cur i 0).map .int), .no, .no, .no, .no]
    try with_reducible refine ss_seq ?_
    with_reducible refine ss_forL [6, 7] ?_
    repeat bv_omega
    refine forOkI o.zipIdx _ (enD_map0 o .int) S (fun i => ∀ (f : Nat) (w : List Int), ws[f]? = some w → ∀ p, p < i → w.getD (p + 1) 0 ≤ cntW st f (o.take (p + 1))) (fun _ _ _ _ h => absurd h (Nat.not_lt_zero _)) ?_ (fun i ⟨t, i'⟩ hp Φ => ?_) fun Φ => ?_
    · have e : (List.replicate (((ws.map tI).length : Nat) : Int).toNat (PyData.int 0)) = (cur 0 0).map .int := by
        refine List.ext_getElem (by simp [cur]) fun i h1 h2 => ?_
        simp [cur, cntW]
      rw [e]
      exact Le.refl _
    · obtain ⟨hi, rfl⟩ := zi hp
      dsimp only [prD, S]
      repeat bv_omega
      dsimp only [List.set]
      have len (i j : Nat) : (cur i j).length = ws.length := by simp [cur]
      have get (i j f : Nat) (h : f < ws.length) : (cur i j)[f]? = some (if f < j then cntW st f (o.take (i + 1)) else cntW st f (o.take i)) := by
        simp only [cur]
        rw [List.getElem?_map, List.getElem?_range h]
        rfl
      have hset (i j : Nat) : (cur i j).set j (cntW st j (o.take (i + 1))) = cur i (j + 1) := by
        refine List.ext_getElem? fun f => ?_
        by_cases hf : f < ws.length
        · rw [List.getElem?_set, get i (j + 1) f hf, len]
          by_cases e : j = f
          · subst e
            rw [if_pos rfl, if_pos hf, if_pos (Nat.lt_succ_self _)]
          · rw [if_neg e, get i j f hf]
            by_cases h : f < j
            · rw [if_pos h, if_pos (by omega)]
            · rw [if_neg h, if_neg (by omega)]
        · rw [List.getElem?_eq_none (by rw [List.length_set, len]; omega), List.getElem?_eq_none (by rw [len]; omega)]
      have hnext (i : Nat) : cur i ws.length = cur (i + 1) 0 := by
        refine List.ext_getElem? fun f => ?_
        by_cases hf : f < ws.length
        · rw [get _ _ f hf, get _ _ f hf, if_pos hf, if_neg (by omega)]
        · rw [List.getElem?_eq_none (by rw [len]; omega), List.getElem?_eq_none (by rw [len]; omega)]
      have hio := (List.getElem?_eq_some_iff.mp hi).1
      have ht := h6 t (List.mem_of_getElem? hi)
      have htk : ∀ f : Nat, cntW st f (o.take (i' + 1)) = cntW st f (o.take i') + (if decide (st.getD t.toNat 0 ≤ (f : Int)) = true then 1 else 0) := fun f => by
        exact cnt_snoc (fun t => decide (st.getD t.toNat 0 ≤ (f : Int))) hi
      let S2 (j : Nat) : List SD := [.dat (hD (n, rooms)), .dat (kD (o, ws)), .dat (tI st), .dat (tI o), .dat (wsD ws), .own ((cur i' j).map .int), .dat (.int i'), .dat (.int t), .no, .no]
      with_reducible refine ss_forL [8, 9] ?_
      repeat bv_omega
      refine forOkI ws.zipIdx _ (enD_map0 ws tI) S2 (fun j => ∀ (f : Nat) (w : List Int), f < j → ws[f]? = some w → w.getD (i' + 1) 0 ≤ cntW st f (o.take (i' + 1))) (fun _ _ h => absurd h (Nat.not_lt_zero _)) (Le.refl _) (fun j ⟨w, j'⟩ hp2 Φ2 => ?_) fun Φ2 => ?_
      · obtain ⟨hj, rfl⟩ := zi hp2
        have hjl := (List.getElem?_eq_some_iff.mp hj).1
        dsimp only [prD, S2]
        repeat bv_omega
        dsimp only [List.set]
        repeat bv_omega
        with_reducible refine ss_augItem rfl ?_
        repeat bv_omega
        refine ⟨_, _, rfl, by rw [List.getElem?_map, get _ _ _ hjl]; rfl, ?_⟩
        rw [if_neg (Nat.lt_irrefl _)]
        repeat bv_omega
        refine dIx_ti ht.1 ht.2 ?_
        repeat bv_omega
        rw [← htk, set_map, hset]
        with_reducible refine ss_if ?_
        repeat bv_omega
        refine ⟨_, _, rfl, atI_map (get _ _ _ hjl), ?_⟩
        rw [if_pos (Nat.lt_succ_self _)]
        repeat bv_omega
        have ei : ((i' : Int) + 1).toNat = i' + 1 := by omega
        refine dIx_ti (by omega) (by rw [h5 w (List.mem_of_getElem? hj)]; omega) ?_
        rw [ei]
        repeat bv_omega
        refine ⟨fun hb => ?_, fun hb => ?_⟩
        · repeat bv_omega
          refine ⟨(fun z => nomatch z), fun z => ?_⟩
          have := show w.getD (i' + 1) 0 ≤ cntW st j' (o.take (i' + 1)) from z.2 _ _ hj _ hio
          have hb := of_decide_eq_true hb
          omega
        · repeat bv_omega
          refine ⟨fun f w' hf hw => ?_, by symm_saturate⟩
          have hb := of_decide_eq_false hb
          by_cases e : f = j'
          · subst e
            rw [hj] at hw
            cases hw
            omega
          · exact Φ2 f w' (by omega) hw
      · refine ⟨fun f w hw p hp => ?_, ?_⟩
        by_cases e : p = i'
        · subst e
          exact Φ2 f w (by rw [List.length_zipIdx]; exact (List.getElem?_eq_some_iff.mp hw).1) hw
        · exact Φ f w hw p (by omega)
        · dsimp only [S2]
          rw [← hnext, List.length_zipIdx]
          symm_saturate
    · repeat bv_omega
      refine ⟨fun _ => ⟨hsz, fun f w hw i hi => Φ f w hw i (by simpa using hi)⟩, fun _ => rfl⟩

end
section
/-! FkD2: lots. -/
/-! may_be_beyond -/
abbrev C_may_be_beyond : Ct := ⟨List Int × List Int × List Int, fun a => [tI a.1, tI a.2.1, lI a.2.2], fun a => sm a.1.length ∧ a.1.length < a.2.1.length, fun a d => ∃ b, d = .bool b ∧ (b = true ↔ MayB a.1 a.2.1 a.2.2)⟩
theorem d_may_be_beyond {K : PySem.W.Frag} : DOk (t_may_be_beyond K) C_may_be_beyond n_may_be_beyond 3 := by
  rintro ⟨o, w, L⟩ h M
  obtain ⟨h1, h2⟩ : o.length ≤ 100000 ∧ o.length < w.length := h
  show SS M (t_may_be_beyond K) [.dat (tI o), .dat (tI w), .dat (lI L), .no, .no, .no] _ _
  unfold t_may_be_beyond
  try with_reducible refine ss_seq ?_
  with_reducible refine ss_set ?_
  repeat bv_omega
  dsimp only [List.set]
  with_reducible refine ss_forL [4, 5] ?_
  repeat bv_omega
  refine ⟨by omega, ?_⟩
  repeat bv_omega
  refine forOkI o.zipIdx _ (enD_map 1 o .int) (fun i => [.dat (tI o), .dat (tI w), .dat (lI L), .dat (.int (cntI L (o.take i))), .no, .no]) (fun i => ∀ p, p < i → cntI L (o.take (p + 1)) ≤ (p + 1 : Nat) - w.getD (p + 1) 0) (fun _ h => absurd h (Nat.not_lt_zero _)) (Le.refl _) (fun i ⟨t, i'⟩ hp Φ => ?_) fun Φ => ?_
  · obtain ⟨hi, rfl⟩ := zi hp
    have hil := (List.getElem?_eq_some_iff.mp hi).1
    dsimp only [prD]
    repeat bv_omega
    dsimp only [List.set]
    try with_reducible refine ss_seq ?_
    with_reducible refine ss_aug rfl ?_
    repeat bv_omega
    refine dIn_list ?_
    repeat bv_omega
    have e : cntI L (o.take i') + (if decide (t ∈ L) = true then 1 else 0) = cntI L (o.take (i' + 1)) := (cnt_snoc (fun t => decide (t ∈ L)) hi).symm
    rw [e]
    dsimp only [List.set]
    with_reducible refine ss_if ?_
    repeat bv_omega
    refine dIx_at (i' + 1) (by omega) (by omega) ?_
    repeat bv_omega
    refine ⟨fun hb => ?_, fun hb => ?_⟩
    · repeat bv_omega
      refine ⟨(fun z => nomatch z), fun z => ?_⟩
      have := show cntI L (o.take (i' + 1)) ≤ (i' + 1 : Nat) - w.getD (i' + 1) 0 from z i' hil
      have hb := of_decide_eq_true hb
      omega
    · repeat bv_omega
      refine ⟨fun p hp => ?_, by symm_saturate⟩
      have hb := of_decide_eq_false hb
      by_cases e : p = i'
      · subst e
        omega
      · exact Φ p (by omega)
  · repeat bv_omega
    rw [List.length_zipIdx] at Φ
    exact ⟨fun _ => Φ, fun _ => rfl⟩
/-! left_within -/
abbrev C_left_within : Ct := ⟨Know × Int × List Int, fun a => [kD a.1, .int a.2.1, lI a.2.2], fun a => sm a.1.1.length ∧ sm a.2.2.length ∧ 0 ≤ a.2.1 ∧ a.2.1.toNat < a.1.2.length ∧ a.1.1.length < (a.1.2.getD a.2.1.toNat []).length, fun a d => d = lI (leftL a.1.1 (a.1.2.getD a.2.1.toNat []) a.2.2)⟩
theorem greedy_len (o w e : List Int) : (greedy o w e).length ≤ e.length := by
  unfold greedy
  have : ∀ (e b : List Int), (e.foldl (fun b t => open Classical in if MayB o w (b ++ [t]) then b ++ [t] else b) b).length ≤ b.length + e.length := by
    intro e
    induction e with
    | nil => intro b; simp
    | cons t e ih =>
      intro b
      rw [List.foldl_cons]
      refine Nat.le_trans (ih _) ?_
      split <;> simp <;> omega
  simpa using this e []
theorem greedy_snoc {o w e : List Int} {i : Nat} {t : Int} (h : e[i]? = some t) : greedy o w (e.take (i + 1)) = open Classical in if MayB o w (greedy o w (e.take i) ++ [t]) then greedy o w (e.take i) ++ [t] else greedy o w (e.take i) := by
  rw [take_snoc h]
  unfold greedy
  rw [List.foldl_append]
  rfl
theorem d_left_within {K : PySem.W.Frag} : DOk (t_left_within K (spP C_may_be_beyond)) C_left_within n_left_within 3 := by
  rintro ⟨⟨o, ws⟩, f, e⟩ h M
  obtain ⟨h1, h2, h3, h4, h5⟩ : o.length ≤ 100000 ∧ e.length ≤ 100000 ∧ 0 ≤ f ∧ f.toNat < ws.length ∧ o.length < (ws.getD f.toNat []).length := h
  show SS M (t_left_within K _) [.dat (kD (o, ws)), .dat (.int f), .dat (lI e), .no, .no, .no, .no] _ _
  unfold t_left_within
  have ef : f = (f.toNat : Nat) := by omega
  obtain ⟨w, hw⟩ : ∃ w, ws[f.toNat]? = some w := ⟨_, List.getElem?_eq_getElem h4⟩
  have ew : ws.getD f.toNat [] = w := by rw [List.getD_eq_getElem?_getD, hw]; rfl
  rw [ew] at h5
  try with_reducible refine ss_seq ?_
  refine ss_tup (n := 3) (is := [3, 4, 5]) rfl ?_ ?_ ?_
  · simp [sizeLine_eq]
  · simp
  refine ws_dat ?_
  repeat bv_omega
  refine ws_dat ?_
  repeat bv_omega
  refine dIx_tup (by rw [ef]; exact atI_map hw) ?_
  refine ws_own (wl_lst ?_)
  repeat bv_omega
  refine ws_nil ⟨rfl, ?_⟩
  dsimp only [setAll, List.set]
  try with_reducible refine ss_seq ?_
  with_reducible refine ss_forL [6] ?_
  repeat bv_omega
  refine forOk1 e .int rfl (fun i => [.dat (kD (o, ws)), .dat (.int f), .dat (lI e), .dat (tI o), .dat (tI w), .own ((greedy o w (e.take i)).map .int), .no]) (Le.refl _) (fun i t hi => ?_) ?_
  · have hil := (List.getElem?_eq_some_iff.mp hi).1
    have hg := greedy_len o w (e.take i)
    rw [List.length_take] at hg
    repeat bv_omega
    dsimp only [List.set]
    with_reducible refine ss_if (wt_frz ?_)
    dsimp only [frz]
    repeat bv_omega
    refine wa_star ?_
    repeat bv_omega
    refine ⟨Nat.le_of_lt (sm_lt (by simp; omega)), ?_⟩
    repeat bv_omega
    refine callOk (o, w, greedy o w (e.take i) ++ [t]) (by simp [C_may_be_beyond]) ⟨h1, h5⟩ ?_
    rintro d ⟨b, rfl, hb⟩
    repeat bv_omega
    refine ⟨fun z => ?_, fun z => ?_⟩
    · with_reducible refine ss_append rfl ?_
      repeat bv_omega
      refine ⟨sm_lt (by simp; omega), ?_⟩
      dsimp only [List.set]
      rw [greedy_snoc hi, if_pos (hb.mp z)]
      rw [List.map_append]
      symm_saturate
    · repeat bv_omega
      have z : ¬ MayB o w (greedy o w (e.take i) ++ [t]) := fun q => by rw [hb.mpr q] at z; cases z
      rw [greedy_snoc hi, if_neg z]
      symm_saturate
  · rw [List.take_of_length_le (Nat.le_refl _)]
    with_reducible refine ss_frz (i := 5) rfl ?_
    dsimp only [List.set]
    repeat bv_omega
    refine lcOk o .int rfl (fun t => decide (t ∉ greedy o w e)) .int (sm_lt h1) (fun i t hi => ?_) ?_
    · dsimp only [wipeD, List.set]
      repeat bv_omega
      refine dNotIn_list ?_
      repeat bv_omega
      refine ⟨by simp, fun _ => ?_⟩
      repeat bv_omega
    · show _ = _
      rw [ew]
      rfl
/-! state_around -/
def lineL (k : Know) (L : List Int) : List Int := L ++ k.1.filter fun t => decide (t ∉ L)
abbrev C_state_around : Ct := ⟨Know × List Int, fun a => [kD a.1, lI a.2], fun a => sm a.1.2.length ∧ (∀ w ∈ a.1.2, w ≠ []) ∧ sm a.1.1.length ∧ sm (lineL a.1 a.2).length ∧ ∀ t ∈ lineL a.1 a.2, 0 ≤ t ∧ t.toNat < (lineL a.1 a.2).length, fun a d => True⟩
theorem d_state_around {K : PySem.W.Frag} : DOk (t_state_around K (spP C_known_sizes)) C_state_around n_state_around 2 := by
  rintro ⟨⟨o, ws⟩, L⟩ h M
  obtain ⟨h1, h2, h3, h4, h5⟩ : ws.length ≤ 100000 ∧ (∀ w ∈ ws, w ≠ []) ∧ o.length ≤ 100000 ∧ (lineL (o, ws) L).length ≤ 100000 ∧ ∀ t ∈ lineL (o, ws) L, 0 ≤ t ∧ t.toNat < (lineL (o, ws) L).length := h
  show SS M (t_state_around K _) [.dat (kD (o, ws)), .dat (lI L), .no, .no, .no, .no, .no, .no] _ _
  unfold t_state_around
  try with_reducible refine ss_seq ?_
  with_reducible refine ss_set ?_
  repeat bv_omega
  refine callOk (o, ws) rfl ⟨h1, h2⟩ ?_
  rintro d rfl
  dsimp only [List.set]
  try with_reducible refine ss_seq ?_
  with_reducible refine ss_set (we_of_wl (wl_lst ?_))
  refine wa_star ?_
  repeat bv_omega
  refine wa_star ?_
  repeat bv_omega
  refine lcOk o .int rfl (fun t => decide (t ∉ L)) .int (sm_lt h3) (fun i t hi => ?_) ?_
  · dsimp only [wipeD, List.set]
    repeat bv_omega
    refine dNotIn_list ?_
    repeat bv_omega
    refine ⟨by simp, fun _ => ?_⟩
    repeat bv_omega
  repeat bv_omega
  have el : L.map PyData.int ++ ((o.filter fun t => decide (t ∉ L)).map PyData.int ++ []) = (lineL (o, ws) L).map PyData.int := by simp [lineL]
  rw [el]
  generalize lineL (o, ws) L = line at *
  refine ⟨Nat.le_of_lt (sm_lt (by simpa using h4)), ?_⟩
  dsimp only [List.set]
  try with_reducible refine ss_seq ?_
  with_reducible refine ss_setL (wl_lcL ?_)
  repeat bv_omega
  refine lcOkM line .int rfl (fun _ => .int ((ksz (o, ws)).length : Nat)) (sm_lt h4) (fun i t hi => ?_) ?_
  · dsimp only [wipeD, List.set]
    repeat bv_omega
    refine ⟨rfl, ?_⟩
    repeat bv_omega
    simp
  dsimp only [List.set]
  try with_reducible refine ss_seq ?_
  with_reducible refine ss_forL [6, 3] ?_
  repeat bv_omega
  refine forOkE (β := List D) line.zipIdx _ (enD_map0 line .int) (fun y => [.dat (kD (o, ws)), .dat (lI L), .dat (tI (ksz (o, ws))), .no, .dat (lI line), .own y, .no, .no]) (fun _ y => y.length = line.length) _ (by simp) (Le.refl _) (fun i ⟨t, i'⟩ y hp Φ => ?_) fun y Φ => ?_
  · obtain ⟨hi, rfl⟩ := zi hp
    dsimp only [prD]
    repeat bv_omega
    dsimp only [List.set]
    with_reducible refine ss_item rfl ?_
    repeat bv_omega
    refine lcOk (ksz (o, ws)) .int rfl (fun s => decide (s ≤ (i' : Int))) .int (sm_lt (by simpa [ksz] using h1)) (fun i t hi => ?_) ?_
    · dsimp only [wipeD, List.set]
      repeat bv_omega
      refine ⟨rfl, fun _ => ?_⟩
      repeat bv_omega
    repeat bv_omega
    have ht := h5 t (List.mem_of_getElem? hi)
    refine ⟨t.toNat, by rw [Int.toNat_of_nonneg ht.1], by omega, ?_⟩
    dsimp only [List.set]
    refine ⟨_, And.comm.mp ⟨by symm_saturate, ?_⟩⟩
    rw [List.length_set]
    exact Φ
  · with_reducible refine ss_frz (i := 5) rfl ?_
    dsimp only [List.set]
    repeat bv_omega
    try trivial

end
section
/-! FkD3: blocks, lies. -/
theorem cutD_nat {xs : List D} {b c : Nat} : cutD xs (some (b : Int)) (some (c : Int)) = (xs.drop b).take (c - b) := by
  unfold cutD
  rw [HT.sIx_nat, HT.sIx_nat]
  by_cases h : b ≤ xs.length
  · rw [Nat.min_eq_left h]
    by_cases h2 : c ≤ xs.length
    · rw [Nat.min_eq_left h2]
    · rw [Nat.min_eq_right (by omega), List.take_of_length_le (by rw [List.length_drop]; omega), List.take_of_length_le (by rw [List.length_drop]; omega)]
  · have e : min b xs.length = xs.length := by omega
    rw [e, List.drop_eq_nil_of_le (Nat.le_refl _), List.drop_eq_nil_of_le (by omega), List.take_nil, List.take_nil]
theorem cutD_upto {xs : List D} {c : Nat} : cutD xs none (some (c : Int)) = xs.take c := by
  unfold cutD
  rw [HT.sIx_nat, HT.sIx_none, List.drop_zero, Nat.sub_zero]
  by_cases h2 : c ≤ xs.length
  · rw [Nat.min_eq_left h2]
  · rw [Nat.min_eq_right (by omega), List.take_of_length_le (Nat.le_refl _), List.take_of_length_le (by omega)]
theorem cutD_from {xs : List D} {c : Nat} : cutD xs (some (c : Int)) none = xs.drop c := by
  unfold cutD
  rw [HT.sIx_nat, HT.sIx_none]
  by_cases h2 : c ≤ xs.length
  · rw [Nat.min_eq_left h2, List.take_of_length_le (by rw [List.length_drop]; omega)]
  · rw [Nat.min_eq_right (by omega), List.drop_eq_nil_of_le (Nat.le_refl _), List.drop_eq_nil_of_le (by omega), List.take_nil]
theorem cutI {l : List Int} {b c : Nat} : cutD (l.map .int) (some (b : Int)) (some (c : Int)) = ((l.drop b).take (c - b)).map .int := by rw [cutD_nat, ← List.map_drop, ← List.map_take]
theorem cutIu {l : List Int} {c : Nat} : cutD (l.map .int) none (some (c : Int)) = (l.take c).map .int := by rw [cutD_upto, ← List.map_take]
theorem isInts_tup {l : List Int} {R : List Int → Prop} (r : R l) : isInts (tI l) R := ⟨l, .inr rfl, r⟩
theorem isInts_list {l : List Int} {R : List Int → Prop} (r : R l) : isInts (lI l) R := ⟨l, .inl rfl, r⟩
/-- a knowledge of the program's defs -/
structure KOk (k : Know) : Prop where
  s0 : k.1.length ≤ 10000
  s1 : k.2.length ≤ 10000
  len : ∀ w ∈ k.2, w.length = k.1.length + 1
  rng : ∀ t ∈ k.1, 0 ≤ t ∧ t.toNat < k.1.length
theorem KOk.so {k : Know} (h : KOk k) : sm k.1.length := Nat.le_trans h.s0 (by decide)
theorem KOk.sw {k : Know} (h : KOk k) : sm k.2.length := Nat.le_trans h.s1 (by decide)
theorem KOk.ne {k : Know} (h : KOk k) : ∀ w ∈ k.2, w ≠ [] := fun w hw e => by have := h.len w hw; rw [e] at this; cases this
theorem KOk.at {k : Know} (h : KOk k) {f : Nat} (hf : f < k.2.length) : (k.2.getD f []).length = k.1.length + 1 := by
  rw [List.getD_eq_getElem?_getD, List.getElem?_eq_getElem hf]
  exact h.len _ (List.getElem_mem hf)
theorem filter_two (p : Int → Bool) : ∀ o : List Int, (o.filter p).length + (o.filter fun t => !p t).length = o.length
  | [] => rfl
  | t :: o => by
    have ih := filter_two p o
    rw [List.filter_cons, List.filter_cons]
    cases p t <;> simp <;> omega
theorem line_ok {o w e : List Int} {ws : List (List Int)} : (lineL (o, ws) (leftL o w e)).length = o.length ∧ ∀ t ∈ lineL (o, ws) (leftL o w e), t ∈ o := by
  unfold lineL leftL
  have e1 : (o.filter fun t => decide (t ∉ o.filter fun t => decide (t ∉ greedy o w e))) = o.filter fun t => !decide (t ∉ greedy o w e) := by
    refine List.filter_congr fun t ht => ?_
    by_cases h : t ∈ greedy o w e <;> simp [ht, h]
  refine ⟨?_, fun t ht => ?_⟩
  · show (List.filter _ o ++ List.filter _ o).length = _
    rw [e1, List.length_append]
    exact filter_two _ o
  · rcases List.mem_append.mp ht with h | h
    · exact (List.mem_filter.mp h).1
    · exact (List.mem_filter.mp h).1
/-! extreme_within -/
abbrev C_extreme_within : Ct := ⟨Know × List Int × Int × List Int, fun a => [kD a.1, tI a.2.1, .int a.2.2.1, lI a.2.2.2], fun a => KOk a.1 ∧ sm a.2.2.2.length ∧ 0 ≤ a.2.2.1 ∧ a.2.2.1.toNat < a.1.2.length,
  fun a d => ∃ x, d = .tuple [.int (cntI a.2.1 (leftL a.1.1 (a.1.2.getD a.2.2.1.toNat []) a.2.2.2)), x]⟩
theorem d_extreme_within {K : PySem.W.Frag} : DOk (t_extreme_within K (spP C_state_around) (spP C_left_within)) C_extreme_within n_extreme_within 4 := by
  rintro ⟨⟨o, ws⟩, lot, f, e⟩ ⟨hk, h2, h3, h4⟩ M
  have h2 : e.length ≤ 100000 := h2
  have ho : o.length ≤ 100000 := hk.so
  show SS M (t_extreme_within K _ _) [.dat (kD (o, ws)), .dat (tI lot), .dat (.int f), .dat (lI e), .no, .no] _ _
  unfold t_extreme_within
  try with_reducible refine ss_seq ?_
  with_reducible refine ss_set ?_
  repeat bv_omega
  refine callOk ((o, ws), f, e) rfl ⟨hk.so, h2, h3, h4, by rw [hk.at h4]; exact Nat.lt_succ_self _⟩ ?_
  rintro d rfl
  dsimp only [List.set]
  have hll : (leftL o (ws.getD f.toNat []) e).length ≤ o.length := List.length_filter_le _ _
  have hl2 := line_ok (o := o) (w := ws.getD f.toNat []) (e := e) (ws := ws)
  generalize hL : leftL o (ws.getD f.toNat []) e = L at *
  repeat bv_omega
  refine lcOk L .int rfl (fun t => decide (t ∈ lot)) .int (sm_lt (by omega)) (fun i t hi => ?_) ?_
  · dsimp only [wipeD, List.set]
    repeat bv_omega
    refine dIn_tup ?_
    repeat bv_omega
    refine ⟨rfl, fun _ => ?_⟩
    repeat bv_omega
  repeat bv_omega
  refine callOk ((o, ws), L) rfl ⟨hk.sw, hk.ne, hk.so, ?_, ?_⟩ ?_
  · show (lineL (o, ws) L).length ≤ _
    rw [hl2.1]; exact ho
  · intro t ht
    show 0 ≤ t ∧ t.toNat < (lineL (o, ws) L).length
    rw [hl2.1]
    exact hk.rng t (hl2.2 t ht)
  intro d _
  repeat bv_omega
  refine ⟨d, ?_⟩
  simp [cntI, List.countP_eq_length_filter]
/-! least_within -/
def rgI (n : Int) : List Int := (List.range n.toNat).map fun (i : Nat) => (i : Int)
def eagerL (n : Int) (lot : List Int) : List Int := lot ++ (rgI n).filter fun t => decide (t ∉ lot)
noncomputable def leastP (n : Int) (k : Know) (lot : List Int) (f : Nat) : Int := cntI lot (leftL k.1 (k.2.getD f []) (eagerL n lot))
abbrev C_least_within : Ct := ⟨House × Know × List Int × Int, fun a => [hD a.1, kD a.2.1, tI a.2.2.1, .int a.2.2.2], fun a => KOk a.2.1 ∧ a.2.2.1.length ≤ 10000 ∧ -10 ≤ a.1.1 ∧ a.1.1 ≤ 10000 ∧ 0 ≤ a.2.2.2 ∧ a.2.2.2.toNat < a.2.1.2.length,
  fun a d => ∃ x, d = .tuple [.int (leastP a.1.1 a.2.1 a.2.2.1 a.2.2.2.toNat), x]⟩
theorem d_least_within {K : PySem.W.Frag} : DOk (t_least_within K (spP C_extreme_within)) C_least_within n_least_within 4 := by
  rintro ⟨⟨n, rooms⟩, ⟨o, ws⟩, lot, f⟩ ⟨hk, h2, h3, h4, h5, h6⟩ M
  have h2 : lot.length ≤ 10000 := h2
  have h3 : -10 ≤ n := h3
  have h4 : n ≤ 10000 := h4
  show SS M (t_least_within K _) [.dat (hD (n, rooms)), .dat (kD (o, ws)), .dat (tI lot), .dat (.int f), .no] _ _
  unfold t_least_within
  repeat bv_omega
  refine wa_star ?_
  repeat bv_omega
  refine wa_star ?_
  repeat bv_omega
  refine ⟨by omega, ?_⟩
  have er : rgD 0 n.toNat = (rgI n).map .int := by rw [rgD_map0]; simp [rgI]
  have hlen : (rgI n).length ≤ 10000 := by simp [rgI]; omega
  refine lcOk (rgI n) .int er (fun t => decide (t ∉ lot)) .int (sm_lt (by omega)) (fun i t hi => ?_) ?_
  · dsimp only [wipeD, List.set]
    repeat bv_omega
    refine dNotIn_tup ?_
    repeat bv_omega
    refine ⟨by simp, fun _ => ?_⟩
    repeat bv_omega
  repeat bv_omega
  have ee : lot.map PyData.int ++ (((rgI n).filter fun t => decide (t ∉ lot)).map PyData.int ++ []) = (eagerL n lot).map PyData.int := by simp [eagerL]
  have he : (eagerL n lot).length ≤ 100000 := by
    have := List.length_filter_le (fun t => decide (t ∉ lot)) (rgI n)
    simp only [eagerL, List.length_append]
    omega
  rw [ee]
  refine ⟨Nat.le_of_lt (sm_lt (by simpa using he)), ?_⟩
  repeat bv_omega
  refine callOk ((o, ws), lot, f, eagerL n lot) rfl ⟨hk, he, h5, h6⟩ ?_
  rintro d ⟨x, rfl⟩
  exact ⟨x, rfl⟩
/-! cuts -/
abbrev nI (l : List Nat) : D := .list (l.map fun p => .int (p : Nat))
abbrev C_cuts_of : Ct := ⟨List Int, fun w => [tI w], fun w => sm w.length, fun w d => d = nI (cutsL w)⟩
theorem d_cuts_of {K : PySem.W.Frag} : DOk (t_cuts_of K) C_cuts_of n_cuts_of 1 := by
  rintro (w : List Int) h M
  have h : w.length ≤ 100000 := h
  show SS M (t_cuts_of K) [.dat (tI w), .no] _ _
  unfold t_cuts_of
  repeat bv_omega
  refine ⟨by simp; omega, ?_⟩
  have er : rgD 1 (((((w.map PyData.int).length : Nat) : Int) - 1) - 1).toNat = ((List.range (w.length - 2)).map (· + 1)).map fun i => PyData.int (i : Nat) := by
    rw [rgD_map, List.map_map, List.length_map]
    have : ((((w.length : Nat) : Int) - 1) - 1).toNat = w.length - 2 := by omega
    rw [this]
    refine List.map_congr_left fun i _ => ?_
    show PyData.int _ = PyData.int _
    congr 1
    show (1 : Int) + (i : Nat) = ((i + 1 : Nat) : Int)
    omega
  refine lcOk ((List.range (w.length - 2)).map (· + 1)) _ er (isCut w) (fun i => .int (i : Nat)) (sm_lt (by simp; omega)) (fun i p hi => ?_) ?_
  · have hp : 1 ≤ p ∧ p + 1 < w.length := by
      obtain ⟨q, hq, rfl⟩ := List.mem_map.mp (List.mem_of_getElem? hi)
      have := List.mem_range.mp hq
      omega
    dsimp only [wipeD, List.set]
    repeat bv_omega
    with_reducible refine we_chain rd_lt rd_eq ?_
    repeat bv_omega
    refine dIx_at (p - 1) (by omega) (by omega) ?_
    repeat bv_omega
    refine dIx_at p (by omega) (by omega) ?_
    repeat bv_omega
    refine ⟨fun hb => ?_, fun hb => ?_⟩
    · repeat bv_omega
      refine dIx_at (p + 1) (by omega) (by omega) ?_
      repeat bv_omega
      refine ⟨?_, fun _ => ?_⟩
      · unfold isCut
        rw [hb, Bool.true_and]
      · repeat bv_omega
    · repeat bv_omega
      refine ⟨?_, fun q => ?_⟩
      · unfold isCut
        rw [hb, Bool.false_and]
      · unfold isCut at q
        rw [hb, Bool.false_and] at q
        cases q
  · show _ = _
    rfl
theorem d_law_cuts {K : PySem.W.Frag} : DOk (t__law_cuts K) C_cuts_of n__law_cuts 1 := by
  rintro (w : List Int) h M
  have h : w.length ≤ 100000 := h
  show SS M (t__law_cuts K) [.dat (tI w), .no] _ _
  unfold t__law_cuts
  repeat bv_omega
  refine ⟨by simp; omega, ?_⟩
  have er : rgD 1 (((((w.map PyData.int).length : Nat) : Int) - 1) - 1).toNat = ((List.range (w.length - 2)).map (· + 1)).map fun i => PyData.int (i : Nat) := by
    rw [rgD_map, List.map_map, List.length_map]
    have : ((((w.length : Nat) : Int) - 1) - 1).toNat = w.length - 2 := by omega
    rw [this]
    refine List.map_congr_left fun i _ => ?_
    show PyData.int _ = PyData.int _
    congr 1
    show (1 : Int) + (i : Nat) = ((i + 1 : Nat) : Int)
    omega
  refine lcOk ((List.range (w.length - 2)).map (· + 1)) _ er (isCut w) (fun i => .int (i : Nat)) (sm_lt (by simp; omega)) (fun i p hi => ?_) ?_
  · have hp : 1 ≤ p ∧ p + 1 < w.length := by
      obtain ⟨q, hq, rfl⟩ := List.mem_map.mp (List.mem_of_getElem? hi)
      have := List.mem_range.mp hq
      omega
    dsimp only [wipeD, List.set]
    repeat bv_omega
    refine dIx_at p (by omega) (by omega) ?_
    repeat bv_omega
    refine dIx_at (p - 1) (by omega) (by omega) ?_
    repeat bv_omega
    refine ⟨fun hb => ?_, fun hb => ?_⟩
    · repeat bv_omega
      refine dIx_at (p + 1) (by omega) (by omega) ?_
      repeat bv_omega
      refine dIx_at p (by omega) (by omega) ?_
      repeat bv_omega
      refine ⟨?_, fun _ => ?_⟩
      · unfold isCut
        rw [hb, Bool.true_and]
        exact decide_eq_decide.mpr eq_comm
      · repeat bv_omega
    · refine ⟨?_, fun q => ?_⟩
      · unfold isCut
        rw [hb, Bool.false_and]
      · unfold isCut at q
        rw [hb, Bool.false_and] at q
        cases q
  · show _ = _
    rfl

end
section
/-! FkD4: blocks, normal orders, needs. -/
theorem cuts_rng {w : List Int} {c : Nat} (h : c ∈ cutsL w) : 1 ≤ c ∧ c + 1 < w.length := by
  obtain ⟨h1, _⟩ := List.mem_filter.mp h
  obtain ⟨q, hq, rfl⟩ := List.mem_map.mp h1
  have := List.mem_range.mp hq
  omega
theorem cuts_len (w : List Int) : (cutsL w).length ≤ w.length := by
  have := List.length_filter_le (isCut w) ((List.range (w.length - 2)).map (· + 1))
  unfold cutsL
  simp only [List.length_map, List.length_range] at this ⊢
  omega
theorem blkGo_snoc (o w : List Int) (c : Nat) : ∀ (cs : List Nat) (b : Nat), blkGo o w b (cs ++ [c]) = blkGo o w b cs ++ [(srt ((o.drop (cs.getLastD b)).take (c - cs.getLastD b)), w.getD c 0)]
  | [], b => rfl
  | x :: cs, b => by
    rw [List.cons_append, blkGo, blkGo_snoc o w c cs x, blkGo, List.getLastD_cons, List.cons_append]
theorem blkGo_len (o w : List Int) : ∀ (cs : List Nat) (b : Nat), (blkGo o w b cs).length = cs.length
  | [], b => rfl
  | x :: cs, b => by rw [blkGo, List.length_cons, List.length_cons, blkGo_len o w cs x]
theorem getLastD_snoc {α : Type} (cs : List α) (c b : α) : (cs ++ [c]).getLastD b = c := by simp
abbrev C_blocks : Ct := ⟨Know, fun k => [kD k], fun k => KOk k, fun k d => d = bssD (blocks k)⟩
theorem d_blocks_of {K : PySem.W.Frag} : DOk (t_blocks_of K (spP C_cuts_of)) C_blocks n_blocks_of 1 := by
  rintro ⟨o, ws⟩ hk M
  have ho : o.length ≤ 10000 := hk.s0
  have hw0 : ws.length ≤ 10000 := hk.s1
  show SS M (t_blocks_of K _) [.dat (kD (o, ws)), .no, .no, .no, .no, .no, .no] _ _
  unfold t_blocks_of
  try with_reducible refine ss_seq ?_
  refine ss_par (by simp) (by simp) (by decide) ?_
  refine ws_dat ?_
  repeat bv_omega
  refine ws_own (wl_lst ?_)
  repeat bv_omega
  refine ws_nil ⟨_, _, rfl, ?_⟩
  dsimp only [List.set]
  try with_reducible refine ss_seq ?_
  with_reducible refine ss_forL [3] ?_
  repeat bv_omega
  refine forOk1 ws tI rfl (fun i => [.dat (kD (o, ws)), .dat (tI o), .own ((blocks (o, ws.take i)).map bsD), .no, .no, .no, .no]) (Le.refl _) (fun i w hi => ?_) ?_
  · have hwl : w.length = o.length + 1 := hk.len w (List.mem_of_getElem? hi)
    have hil := (List.getElem?_eq_some_iff.mp hi).1
    repeat bv_omega
    dsimp only [List.set]
    refine ss_par (by simp) (by simp) (by decide) ?_
    refine ws_own (wl_lst ?_)
    repeat bv_omega
    refine ws_dat ?_
    repeat bv_omega
    refine ws_nil ⟨_, _, rfl, ?_⟩
    dsimp only [List.set]
    try with_reducible refine ss_seq ?_
    with_reducible refine ss_forL [6] ?_
    repeat bv_omega
    refine callOk w rfl (by show w.length ≤ 100000; omega) ?_
    rintro d rfl
    repeat bv_omega
    refine forOk1 (cutsL w) (fun p => .int (p : Nat)) rfl (fun j => [.dat (kD (o, ws)), .dat (tI o), .own ((blocks (o, ws.take i)).map bsD), .dat (tI w), .own ((blkGo o w 0 ((cutsL w).take j)).map bD), .dat (.int ((((cutsL w).take j).getLastD 0 : Nat) : Int)), .no]) (Le.refl _) (fun j c hj => ?_) ?_
    · have hc := cuts_rng (List.mem_of_getElem? hj)
      have hcl := cuts_len w
      repeat bv_omega
      dsimp only [List.set]
      refine ss_append rfl ?_
      repeat bv_omega
      rw [cutI]
      refine isInts_tup ?_
      repeat bv_omega
      refine dIx_tin (by omega) ?_
      repeat bv_omega
      refine ⟨sm_lt ?_, ?_⟩
      · rw [List.length_map, blkGo_len, List.length_take]
        omega
      dsimp only [List.set]
      refine ss_set ?_
      repeat bv_omega
      dsimp only [List.set]
      rw [take_snoc hj, blkGo_snoc, getLastD_snoc, List.map_append]
      symm_saturate
    · try dsimp only
      rw [List.take_of_length_le (Nat.le_refl _)]
      refine ss_append rfl ?_
      repeat bv_omega
      refine ⟨sm_lt ?_, ?_⟩
      · simp [blocks]
        omega
      dsimp only [List.set]
      have e : blocks (o, ws.take (i + 1)) = blocks (o, ws.take i) ++ [blkGo o w 0 (cutsL w)] := by
        unfold blocks
        rw [take_snoc hi, List.map_append]
        rfl
      rw [e, List.map_append]
      symm_saturate
  · rw [List.take_of_length_le (Nat.le_refl _)]
    refine ss_frz (i := 2) rfl ?_
    dsimp only [List.set]
    repeat bv_omega
    try rfl
theorem d_law_blocks {K : PySem.W.Frag} : DOk (t__law_blocks K (spP C_cuts_of)) C_blocks n__law_blocks 1 := by
  rintro ⟨o, ws⟩ hk M
  have ho : o.length ≤ 10000 := hk.s0
  have hw0 : ws.length ≤ 10000 := hk.s1
  show SS M (t__law_blocks K _) [.dat (kD (o, ws)), .no, .no, .no, .no, .no] _ _
  unfold t__law_blocks
  try with_reducible refine ss_seq ?_
  refine ss_setL (wl_lst ?_)
  repeat bv_omega
  dsimp only [List.set]
  try with_reducible refine ss_seq ?_
  with_reducible refine ss_forL [2] ?_
  repeat bv_omega
  refine forOk1 ws tI rfl (fun i => [.dat (kD (o, ws)), .own ((blocks (o, ws.take i)).map bsD), .no, .no, .no, .no]) (Le.refl _) (fun i w hi => ?_) ?_
  · have hwl : w.length = o.length + 1 := hk.len w (List.mem_of_getElem? hi)
    have hil := (List.getElem?_eq_some_iff.mp hi).1
    repeat bv_omega
    dsimp only [List.set]
    refine ss_par (by simp) (by simp) (by decide) ?_
    refine ws_own (wl_lst ?_)
    repeat bv_omega
    refine ws_dat ?_
    repeat bv_omega
    refine ws_nil ⟨_, _, rfl, ?_⟩
    dsimp only [List.set]
    try with_reducible refine ss_seq ?_
    with_reducible refine ss_forL [5] ?_
    repeat bv_omega
    refine callOk w rfl (by show w.length ≤ 100000; omega) ?_
    rintro d rfl
    repeat bv_omega
    refine forOk1 (cutsL w) (fun p => .int (p : Nat)) rfl (fun j => [.dat (kD (o, ws)), .own ((blocks (o, ws.take i)).map bsD), .dat (tI w), .own ((blkGo o w 0 ((cutsL w).take j)).map bD), .dat (.int ((((cutsL w).take j).getLastD 0 : Nat) : Int)), .no]) (Le.refl _) (fun j c hj => ?_) ?_
    · have hc := cuts_rng (List.mem_of_getElem? hj)
      have hcl := cuts_len w
      repeat bv_omega
      dsimp only [List.set]
      refine ss_append rfl ?_
      repeat bv_omega
      rw [cutI]
      refine isInts_tup ?_
      repeat bv_omega
      refine dIx_tin (by omega) ?_
      repeat bv_omega
      refine ⟨sm_lt ?_, ?_⟩
      · rw [List.length_map, blkGo_len, List.length_take]
        omega
      dsimp only [List.set]
      refine ss_set ?_
      repeat bv_omega
      dsimp only [List.set]
      rw [take_snoc hj, blkGo_snoc, getLastD_snoc, List.map_append]
      symm_saturate
    · try dsimp only
      rw [List.take_of_length_le (Nat.le_refl _)]
      refine ss_append rfl ?_
      repeat bv_omega
      refine ⟨sm_lt ?_, ?_⟩
      · simp [blocks]
        omega
      dsimp only [List.set]
      have e : blocks (o, ws.take (i + 1)) = blocks (o, ws.take i) ++ [blkGo o w 0 (cutsL w)] := by
        unfold blocks
        rw [take_snoc hi, List.map_append]
        rfl
      rw [e, List.map_append]
      symm_saturate
  · rw [List.take_of_length_le (Nat.le_refl _)]
    refine ss_frz (i := 1) rfl ?_
    dsimp only [List.set]
    repeat bv_omega
    try rfl
/-! normal_of -/
def nrmOk (k : Know) (p : Nat) : Prop := p = k.1.length ∨ ∃ w ∈ k.2, p ∈ cutsL w
instance (k : Know) (p : Nat) : Decidable (nrmOk k p) := by unfold nrmOk; infer_instance
/-- the state behind the places ps: what is found, where the next part begins -/
def nrmS (k : Know) (ps : List Nat) : List Int × Nat := ps.foldl (fun s p => if nrmOk k p then (s.1 ++ srt ((k.1.drop s.2).take (p - s.2)), p) else s) ([], 0)
def normal (k : Know) : Know := ((nrmS k ((List.range k.1.length).map (· + 1))).1, k.2)
theorem srt_len (l : List Int) : (srt l).length = l.length := (srt_perm l).length_eq
theorem nrmS_snoc (k : Know) {ps : List Nat} {i p : Nat} (h : ps[i]? = some p) : nrmS k (ps.take (i + 1)) = if nrmOk k p then ((nrmS k (ps.take i)).1 ++ srt ((k.1.drop (nrmS k (ps.take i)).2).take (p - (nrmS k (ps.take i)).2)), p) else nrmS k (ps.take i) := by
  unfold nrmS
  rw [take_snoc h, List.foldl_append]
  rfl
theorem nrmS_len (k : Know) : ∀ i, i ≤ k.1.length → (nrmS k (((List.range k.1.length).map (· + 1)).take i)).1.length = (nrmS k (((List.range k.1.length).map (· + 1)).take i)).2 ∧ (nrmS k (((List.range k.1.length).map (· + 1)).take i)).2 ≤ i
  | 0, _ => ⟨rfl, Nat.le_refl _⟩
  | i + 1, h => by
    have ih := nrmS_len k i (by omega)
    have hi : ((List.range k.1.length).map (· + 1))[i]? = some (i + 1) := by
      rw [List.getElem?_map, List.getElem?_range (by omega)]
      rfl
    rw [nrmS_snoc k hi]
    split
    · refine ⟨?_, Nat.le_refl _⟩
      rw [List.length_append, srt_len, List.length_take, List.length_drop, ih.1]
      have := ih.2
      dsimp only
      omega
    · exact ⟨ih.1, by omega⟩
abbrev C_normal_of : Ct := ⟨Know, fun k => [kD k], fun k => KOk k, fun k d => d = kD (normal k)⟩
theorem d_normal_of {K : PySem.W.Frag} : DOk (t_normal_of K (spP C_cuts_of)) C_normal_of n_normal_of 1 := by
  rintro ⟨o, ws⟩ hk M
  have ho : o.length ≤ 10000 := hk.s0
  have hw0 : ws.length ≤ 10000 := hk.s1
  show SS M (t_normal_of K _) [.dat (kD (o, ws)), .no, .no, .no, .no, .no, .no] _ _
  unfold t_normal_of
  try with_reducible refine ss_seq ?_
  refine ss_asg (is := [1, 2]) ?_
  repeat bv_omega
  dsimp only [List.set]
  try with_reducible refine ss_seq ?_
  refine ss_par (by simp) (by simp) (by decide) ?_
  refine ws_own (wl_lst ?_)
  repeat bv_omega
  refine ws_dat ?_
  repeat bv_omega
  refine ws_nil ⟨_, _, rfl, ?_⟩
  dsimp only [List.set]
  try with_reducible refine ss_seq ?_
  with_reducible refine ss_forL [5] ?_
  repeat bv_omega
  refine ⟨by simp; omega, ?_⟩
  have er : rgD 1 (((((o.map PyData.int).length : Nat) : Int) + 1) - 1).toNat = ((List.range o.length).map (· + 1)).map fun i => PyData.int (i : Nat) := by
    rw [rgD_map, List.map_map, List.length_map]
    have : ((((o.length : Nat) : Int) + 1) - 1).toNat = o.length := by omega
    rw [this]
    refine List.map_congr_left fun i _ => ?_
    show PyData.int _ = PyData.int _
    congr 1
    show (1 : Int) + (i : Nat) = ((i + 1 : Nat) : Int)
    omega
  generalize hps : (List.range o.length).map (· + 1) = ps at er
  refine forOk1 ps _ er (fun i => [.dat (kD (o, ws)), .dat (tI o), .dat (wsD ws), .own ((nrmS (o, ws) (ps.take i)).1.map .int), .dat (.int ((nrmS (o, ws) (ps.take i)).2 : Nat)), .no, .no]) (Le.refl _) (fun i p hi => ?_) ?_
  · have hil := (List.getElem?_eq_some_iff.mp hi).1
    have hpl : ps.length = o.length := by rw [← hps]; simp
    have hl : (nrmS (o, ws) (ps.take i)).1.length = (nrmS (o, ws) (ps.take i)).2 ∧ (nrmS (o, ws) (ps.take i)).2 ≤ i := by
      have := nrmS_len (o, ws) i (by show i ≤ o.length; omega)
      rw [← hps]
      exact this
    have hfin : ∀ b, (b = true ↔ nrmOk (o, ws) p) → (b = true → SS M (tSeq (tDrop (tBM K "list" rExtend (tVar 3) (tCons (tCB (rSortB) (tCons (tSl (rSl2 K) (tVar 1) (tPart (tVar 4)) (tPart (tVar 5))) tNil)) tNil)))
      (tAsg (tVar 5) (gName 4))) [.dat (kD (o, ws)), .dat (tI o), .dat (wsD ws), .own ((nrmS (o, ws) (ps.take i)).1.map .int), .dat (.int ((nrmS (o, ws) (ps.take i)).2 : Nat)), .dat (.int (p : Nat)), .no] (fun δ3 => Le δ3 [.dat (kD (o, ws)), .dat (tI o), .dat (wsD ws), .own ((nrmS (o, ws) (ps.take (i + 1))).1.map .int), .dat (.int ((nrmS (o, ws) (ps.take (i + 1))).2 : Nat)), .no, .no]) ⟨C_normal_of.post (o, ws), fun _ => False, fun _ => False⟩) ∧
        (b = false → Le [.dat (kD (o, ws)), .dat (tI o), .dat (wsD ws), .own ((nrmS (o, ws) (ps.take i)).1.map .int), .dat (.int ((nrmS (o, ws) (ps.take i)).2 : Nat)), .dat (.int (p : Nat)), .no] [.dat (kD (o, ws)), .dat (tI o), .dat (wsD ws), .own ((nrmS (o, ws) (ps.take (i + 1))).1.map .int), .dat (.int ((nrmS (o, ws) (ps.take (i + 1))).2 : Nat)), .no, .no]) := fun b hb => by
      refine ⟨fun z => ?_, fun z => ?_⟩
      · have hc := hb.mp z
        try with_reducible refine ss_seq ?_
        refine ss_extend rfl ?_
        repeat bv_omega
        rw [cutI]
        refine isInts_tup ?_
        repeat bv_omega
        refine ⟨Nat.le_of_lt (sm_lt ?_), ?_⟩
        · rw [List.length_map, List.length_map, srt_len, List.length_take, List.length_drop, hl.1]
          omega
        dsimp only [List.set]
        refine ss_set ?_
        repeat bv_omega
        dsimp only [List.set]
        rw [nrmS_snoc (o, ws) hi, if_pos hc, List.map_append]
        symm_saturate
      · have hc : ¬ nrmOk (o, ws) p := fun q => by rw [hb.mpr q] at z; cases z
        rw [nrmS_snoc (o, ws) hi, if_neg hc]
        symm_saturate
    repeat bv_omega
    dsimp only [List.set]
    refine ss_if (wt_eq (R' := fun b => (b = true ↔ nrmOk (o, ws) p)) ?_ fun b hb => ⟨fun z => ?_, fun z => ?_⟩)
    · repeat bv_omega
      refine ⟨fun hb => ?_, fun hb => ?_⟩
      · have hb := of_decide_eq_true hb
        exact ⟨fun _ => .inl (by rw [List.length_map] at hb; show p = o.length; omega), fun _ => rfl⟩
      · have hb := of_decide_eq_false hb
        repeat bv_omega
        refine lcOk ws tI rfl (fun w => decide (p ∈ cutsL w)) tI (sm_lt (by omega)) (fun j w hj => ?_) ?_
        · have hwl : w.length = o.length + 1 := hk.len w (List.mem_of_getElem? hj)
          dsimp only [wipeD, List.set]
          repeat bv_omega
          refine callOk w rfl (by show w.length ≤ 100000; omega) ?_
          rintro d rfl
          have em : (cutsL w).map (fun p => PyData.int (p : Nat)) = ((cutsL w).map fun (p : Nat) => (p : Int)).map .int := by simp
          show dIn2 _ (.list ((cutsL w).map fun p => PyData.int (p : Nat))) _
          rw [em]
          refine dIn_list ?_
          repeat bv_omega
          refine ⟨?_, fun _ => ?_⟩
          · refine decide_eq_decide.mpr ?_
            rw [List.mem_map]
            exact ⟨fun ⟨a, ha, e⟩ => by rw [← Int.ofNat_inj.mp e]; exact ha, fun h => ⟨p, h, rfl⟩⟩
          · repeat bv_omega
        · repeat bv_omega
          refine dNe_f (e := fun l : List (List Int) => PyData.list (l.map tI)) (a := ws.filter fun w => decide (p ∈ cutsL w)) (b := []) fTI.lst ?_
          repeat bv_omega
          have : nrmOk (o, ws) p ↔ ∃ w ∈ ws, p ∈ cutsL w := ⟨fun h => h.resolve_left fun e => hb (by rw [e]; simp), .inr⟩
          rw [this]
          simp [List.filter_eq_nil_iff]
    · exact ss_K ((hfin b hb).1 z) (fun _ n => n) (fun _ n => n) (fun _ n => n.elim) fun _ n => n.elim
    · repeat bv_omega
      exact (hfin b hb).2 z
  · rw [List.take_of_length_le (Nat.le_refl _)]
    refine ss_frz (i := 3) rfl ?_
    dsimp only [List.set]
    repeat bv_omega
    rw [← hps]
    rfl
/-! alike -/
theorem normal_ok {k : Know} (h : KOk k) : (normal k).2 = k.2 := rfl
abbrev C_alike : Ct := ⟨Know × Know, fun a => [kD a.1, kD a.2], fun a => KOk a.1 ∧ KOk a.2, fun a d => d = .bool (decide (normal a.1 = normal a.2))⟩
theorem d_alike {K : PySem.W.Frag} : DOk (t_alike K (spP C_normal_of)) C_alike n_alike 2 := by
  rintro ⟨k, m⟩ ⟨hk, hm⟩ M
  show SS M (t_alike K _) [.dat (kD k), .dat (kD m)] _ _
  unfold t_alike
  repeat bv_omega
  refine callOk k rfl hk ?_
  rintro d rfl
  repeat bv_omega
  refine callOk m rfl hm ?_
  rintro d rfl
  exact dEq_f fK rfl
/-! needs_of -/
abbrev Need := List Int × Nat × Int
abbrev ndD (n : Need) : D := .tuple [tI n.1, .int (n.2.1 : Nat), .int n.2.2]
def needsW (o : List Int) (w : List Int) (f : Nat) : List Need := (cutsL w).map fun c => (srt (o.take c), f, w.getD c 0)
def needs (k : Know) : List Need := (k.2.zipIdx.map fun p => needsW k.1 p.1 p.2).flatten
theorem flat_len {o : List Int} (ws : List (List Int × Nat)) (n : Nat) (h : ∀ p ∈ ws, p.1.length ≤ n) : ((ws.map fun p => needsW o p.1 p.2).flatten).length ≤ ws.length * n := by
  induction ws with
  | nil => simp
  | cons p ws ih =>
    have h1 := ih fun q hq => h q (.tail _ hq)
    have h2 := h p (.head _)
    have h3 := cuts_len p.1
    rw [List.map_cons, List.flatten_cons, List.length_append, List.length_cons, Nat.succ_mul]
    unfold needsW at *
    rw [List.length_map]
    omega
abbrev C_needs_of : Ct := ⟨Know, fun k => [kD k], fun k => KOk k ∧ k.1.length ≤ 1000 ∧ k.2.length ≤ 1000, fun k d => d = .list ((needs k).map ndD)⟩
theorem d_needs_of {K : PySem.W.Frag} : DOk (t_needs_of K (spP C_cuts_of)) C_needs_of n_needs_of 1 := by
  rintro ⟨o, ws⟩ ⟨hk, ho, hw0⟩ M
  have ho : o.length ≤ 1000 := ho
  have hw0 : ws.length ≤ 1000 := hw0
  show SS M (t_needs_of K _) [.dat (kD (o, ws)), .no, .no, .no, .no] _ _
  unfold t_needs_of
  try with_reducible refine ss_seq ?_
  refine ss_setL (wl_lst ?_)
  repeat bv_omega
  dsimp only [List.set]
  try with_reducible refine ss_seq ?_
  with_reducible refine ss_forL [2, 3] ?_
  repeat bv_omega
  refine forOk1 ws.zipIdx _ (enD_map0 ws tI) (fun i => [.dat (kD (o, ws)), .own (((ws.zipIdx.take i).map fun p => needsW o p.1 p.2).flatten.map ndD), .no, .no, .no]) (Le.refl _) (fun i ⟨w, i'⟩ hp => ?_) ?_
  · obtain ⟨hi, rfl⟩ := zi hp
    have hwl : w.length = o.length + 1 := hk.len w (List.mem_of_getElem? hi)
    have hil := (List.getElem?_eq_some_iff.mp hi).1
    have hcl := cuts_len w
    have hfl := flat_len (o := o) (ws.zipIdx.take i') 1001 fun p hp => by
      have : p.1 ∈ ws := by
        have := List.mem_of_mem_take hp
        have h2 : p.1 ∈ ws.zipIdx.map Prod.fst := List.mem_map_of_mem this
        simpa using h2
      have := hk.len p.1 this
      show p.1.length ≤ _
      rw [this]
      show o.length + 1 ≤ _
      omega
    have hfl2 : (ws.zipIdx.take i').length * 1001 ≤ 1000 * 1001 := Nat.mul_le_mul_right _ (by rw [List.length_take]; simp; omega)
    dsimp only [prD]
    repeat bv_omega
    dsimp only [List.set]
    refine ss_extend rfl ?_
    repeat bv_omega
    refine callOk w rfl (by show w.length ≤ 100000; omega) ?_
    rintro d rfl
    repeat bv_omega
    refine lcOkM (cutsL w) (fun p => .int (p : Nat)) rfl (fun c => ndD (srt (o.take c), i', w.getD c 0)) (sm_lt (by omega)) (fun j c hj => ?_) ?_
    · have hc := cuts_rng (List.mem_of_getElem? hj)
      dsimp only [wipeD, List.set]
      repeat bv_omega
      refine ⟨rfl, ?_⟩
      repeat bv_omega
      rw [cutIu]
      refine isInts_tup ?_
      repeat bv_omega
      refine dIx_tin (by omega) ?_
      repeat bv_omega
    · refine ⟨_, rfl, Nat.le_of_lt (by rw [sizeLine_eq]; simp only [List.length_map] at *; omega), ?_⟩
      dsimp only [List.set]
      have e : (ws.zipIdx.take (i' + 1)).map (fun p => needsW o p.1 p.2) = (ws.zipIdx.take i').map (fun p => needsW o p.1 p.2) ++ [needsW o w i'] := by
        rw [take_snoc hp, List.map_append]
        rfl
      rw [e, List.flatten_append, List.map_append]
      have e2 : [needsW o w i'].flatten.map ndD = (cutsL w).map fun c => ndD (srt (o.take c), i', w.getD c 0) := by simp [needsW]
      rw [e2]
      symm_saturate
  · rw [List.take_of_length_le (Nat.le_refl _)]
    refine ss_frz (i := 1) rfl ?_
    dsimp only [List.set]
    repeat bv_omega
    rfl
/-! lies_in -/
abbrev C_lies_in : Ct := ⟨House × Know × Know, fun a => [hD a.1, kD a.2.1, kD a.2.2], fun a => KOk a.2.1 ∧ KOk a.2.2 ∧ a.2.2.1.length ≤ 1000 ∧ a.2.2.2.length ≤ 1000 ∧ -10 ≤ a.1.1 ∧ a.1.1 ≤ 1000,
  fun a d => ∃ b, d = .bool b ∧ (b = true ↔ ksz a.2.1 = ksz a.2.2 ∧ ∀ nd ∈ needs a.2.2, nd.2.2 ≤ leastP a.1.1 a.2.1 nd.1 nd.2.1)⟩
theorem d_lies_in {K : PySem.W.Frag} : DOk (t_lies_in K (spP C_needs_of) (spP C_least_within) (spP C_known_sizes)) C_lies_in n_lies_in 3 := by
  rintro ⟨⟨n, rooms⟩, k, m⟩ ⟨hk, hm, hm1, hm2, hn1, hn2⟩ M
  have hn1 : -10 ≤ n := hn1
  have hn2 : n ≤ 1000 := hn2
  have hm1 : m.1.length ≤ 1000 := hm1
  have hm2 : m.2.length ≤ 1000 := hm2
  have hm : KOk m := hm
  have hk : KOk k := hk
  show SS M (t_lies_in K _ _ _) [.dat (hD (n, rooms)), .dat (kD k), .dat (kD m), .no, .no, .no] _ _
  unfold t_lies_in
  try with_reducible refine ss_seq ?_
  with_reducible refine ss_if ?_
  repeat bv_omega
  refine callOk k rfl ⟨hk.sw, hk.ne⟩ ?_
  rintro d rfl
  repeat bv_omega
  refine callOk m rfl ⟨hm.sw, hm.ne⟩ ?_
  rintro d rfl
  refine dNe_f fTI ?_
  repeat bv_omega
  refine ⟨fun hb => ?_, fun hb => ?_⟩
  · have hb : ¬ ksz k = ksz m := by simpa using hb
    repeat bv_omega
    exact ⟨(fun z => nomatch z), fun z => absurd z.1 hb⟩
  · have hb : ksz k = ksz m := by simpa using hb
    have hlen : k.2.length = m.2.length := by
      have := congrArg List.length hb
      simpa [ksz] using this
    repeat bv_omega
    refine callOk m rfl ⟨hm, hm1, hm2⟩ ?_
    rintro d rfl
    repeat bv_omega
    refine lcOkM (needs m) ndD rfl (fun nd => .bool (decide (nd.2.2 ≤ leastP n k nd.1 nd.2.1))) ?_ (fun j nd hj => ?_) ?_
    · have h := flat_len (o := m.1) m.2.zipIdx 1001 fun p hp => by
        have h2 : p.1 ∈ m.2.zipIdx.map Prod.fst := List.mem_map_of_mem hp
        have h2 : p.1 ∈ m.2 := by simpa using h2
        rw [hm.len p.1 h2]
        omega
      have h2 : m.2.zipIdx.length * 1001 ≤ 1000 * 1001 := Nat.mul_le_mul_right _ (by simpa using hm2)
      unfold needs
      rw [sizeLine_eq]
      omega
    · have hnd := List.mem_of_getElem? hj
      have hnl : nd.1.length ≤ 1000 ∧ nd.2.1 < k.2.length := by
        unfold needs at hnd
        obtain ⟨l, hl, hnd⟩ := List.mem_flatten.mp hnd
        obtain ⟨p, hp, rfl⟩ := List.mem_map.mp hl
        obtain ⟨c, hc, rfl⟩ := List.mem_map.mp hnd
        obtain ⟨i, hi⟩ := List.getElem?_of_mem hp
        obtain ⟨h1, h2⟩ := zi (a := p.1) (j := p.2) hi
        have := (List.getElem?_eq_some_iff.mp h1).1
        refine ⟨?_, by show p.2 < _; omega⟩
        show (srt _).length ≤ _
        rw [srt_len, List.length_take]
        omega
      dsimp only [wipeD, List.set, ndD]
      repeat bv_omega
      dsimp only [List.set]
      repeat bv_omega
      refine ⟨rfl, ?_⟩
      repeat bv_omega
      refine callOk ((n, rooms), k, nd.1, (nd.2.1 : Nat)) rfl ⟨hk, show nd.1.length ≤ 10000 by omega, hn1, show n ≤ 10000 by omega, Int.natCast_nonneg _, by rw [Int.toNat_natCast]; exact hnl.2⟩ ?_
      rintro d ⟨x, rfl⟩
      repeat bv_omega
      rw [Int.toNat_natCast]
    · repeat bv_omega
      refine ⟨(needs m).map fun nd => decide (nd.2.2 ≤ leastP n k nd.1 nd.2.1), ?_, ?_⟩
      · simp
      · repeat bv_omega
        simp [hb]

end
section
/-! FkD5: the law's own exact defs. -/
abbrev C_law_rooms_within : Ct := ⟨House, fun h => [hD h], fun h => sm h.2.length, fun h d => d = lI ((List.range h.2.length).map fun f => (h.2.take (f + 1)).sum)⟩
theorem d_law_rooms_within {K : PySem.W.Frag} : DOk (t__law_rooms_within K) C_law_rooms_within n__law_rooms_within 1 := by
  rintro ⟨n, rooms⟩ h M
  have h : rooms.length ≤ 100000 := h
  show SS M (t__law_rooms_within K) [.dat (hD (n, rooms)), .no] _ _
  unfold t__law_rooms_within
  repeat bv_omega
  refine ⟨by simp; omega, lcOkM (List.range rooms.length) (fun i => .int (i : Nat)) (by rw [rgD_map0]; simp) (fun f => .int ((rooms.take (f + 1)).sum)) (sm_lt (by simpa using h)) (fun i p hi => ?_) ?_⟩
  · dsimp only [wipeD, List.set]
    repeat bv_omega
    refine ⟨rfl, ?_⟩
    repeat bv_omega
    have e : ((p : Int) + 1) = ((p + 1 : Nat) : Int) := by omega
    rw [e, cutIu]
    refine isInts_tup ?_
    repeat bv_omega
  · show _ = _
    simp
theorem getD_map_range (st : List Int) : (List.range st.length).map (fun i => st.getD i 0) = st := by
  refine List.ext_getElem? fun i => ?_
  rw [List.getElem?_map]
  by_cases h : i < st.length
  · rw [List.getElem?_range h, getD_some h]
    rfl
  · rw [List.getElem?_eq_none (by simpa using h), List.getElem?_eq_none (by omega)]
    rfl
abbrev C_law_within : Ct := ⟨House × List Int × Int, fun a => [hD a.1, tI a.2.1, .int a.2.2], fun a => a.1.1 = a.2.1.length ∧ sm a.2.1.length, fun a d => ∃ ns : List Int, d = lI ns ∧ (ns.length : Int) = cnt a.2.1 a.2.2⟩
theorem d_law_within {K : PySem.W.Frag} : DOk (t__law_within K) C_law_within n__law_within 3 := by
  rintro ⟨⟨n, rooms⟩, st, f⟩ ⟨h1, h2⟩ M
  have h1 : n = st.length := h1
  have h2 : st.length ≤ 100000 := h2
  show SS M (t__law_within K) [.dat (hD (n, rooms)), .dat (tI st), .dat (.int f), .no] _ _
  unfold t__law_within
  repeat bv_omega
  refine ⟨by omega, lcOk (List.range st.length) (fun i => .int (i : Nat)) (by rw [rgD_map0, h1, Int.toNat_natCast]) (fun i => decide (st.getD i 0 ≤ f)) (fun i => .int (i : Nat)) (sm_lt (by simpa using h2)) (fun i p hi => ?_) ?_⟩
  · have hp := List.mem_range.mp (List.mem_of_getElem? hi)
    dsimp only [wipeD, List.set]
    repeat bv_omega
    refine dIx_tin hp ?_
    repeat bv_omega
    refine ⟨rfl, fun _ => ?_⟩
    repeat bv_omega
  · refine ⟨((List.range st.length).filter fun i => decide (st.getD i 0 ≤ f)).map fun (i : Nat) => (i : Int), by simp, ?_⟩
    rw [List.length_map, ← List.countP_eq_length_filter]
    unfold cnt
    conv => rhs; rw [← getD_map_range st, List.countP_map]
    rfl
abbrev C_law_sizes : Ct := ⟨House × List Int, fun a => [hD a.1, tI a.2], fun a => a.1.1 = a.2.length ∧ sm a.2.length ∧ sm a.1.2.length, fun a d => d = tI (sizesL a.1.2.length a.2)⟩
theorem d_law_sizes {K : PySem.W.Frag} : DOk (t__law_sizes K (spP C_law_within)) C_law_sizes n__law_sizes 2 := by
  rintro ⟨⟨n, rooms⟩, st⟩ ⟨h0, h1, h2⟩ M
  have h1 : st.length ≤ 100000 := h1
  have h2 : rooms.length ≤ 100000 := h2
  show SS M (t__law_sizes K _) [.dat (hD (n, rooms)), .dat (tI st), .no] _ _
  unfold t__law_sizes
  repeat bv_omega
  refine ⟨by simp; omega, lcOkM (List.range rooms.length) (fun i => .int (i : Nat)) (by rw [rgD_map0]; simp) (fun i => .int (cnt st (i : Nat))) (sm_lt (by simpa using h2)) (fun i p hp => ?_) ?_⟩
  · dsimp only [wipeD, List.set]
    repeat bv_omega
    refine ⟨rfl, ?_⟩
    repeat bv_omega
    refine callOk ((n, rooms), st, (p : Int)) rfl ⟨h0, h1⟩ ?_
    rintro d ⟨ns, rfl, hl⟩
    repeat bv_omega
    rw [List.length_map, hl]
  · repeat bv_omega
    show _ = _
    simp [sizesL]
/-! _law_flat -/
abbrev C_law_flat : Ct := ⟨List (List D), fun r => [.list (r.map PyData.list)], fun r => r.flatten.length ≤ 1000000, fun r d => d = .list r.flatten⟩
theorem flatten_take_le {α : Type} (r : List (List α)) (i : Nat) : (r.take i).flatten.length ≤ r.flatten.length := by
  conv => rhs; rw [← List.take_append_drop i r, List.flatten_append, List.length_append]
  omega
theorem d_law_flat {K : PySem.W.Frag} : DOk (t__law_flat K) C_law_flat n__law_flat 1 := by
  rintro (r : List (List D)) h M
  have h : r.flatten.length ≤ 1000000 := h
  show SS M (t__law_flat K) [.dat (.list (r.map PyData.list)), .no, .no] _ _
  unfold t__law_flat
  try with_reducible refine ss_seq ?_
  refine ss_setL (wl_lst ?_)
  repeat bv_omega
  dsimp only [List.set]
  try with_reducible refine ss_seq ?_
  with_reducible refine ss_forL [2] ?_
  repeat bv_omega
  refine forOk1 r PyData.list rfl (fun i => [.dat (.list (r.map PyData.list)), .own (r.take i).flatten, .no]) (Le.refl _) (fun i x hi => ?_) ?_
  · have h1 := flatten_take_le r (i + 1)
    rw [take_snoc hi, List.flatten_append, List.length_append] at h1
    simp only [List.flatten_cons, List.flatten_nil, List.append_nil] at h1
    repeat bv_omega
    dsimp only [List.set]
    refine ss_extend rfl ?_
    repeat bv_omega
    refine ⟨by rw [sizeLine_eq]; omega, ?_⟩
    dsimp only [List.set]
    rw [take_snoc hi, List.flatten_append]
    simp only [List.flatten_cons, List.flatten_nil, List.append_nil]
    symm_saturate
  · rw [List.take_of_length_le (Nat.le_refl _)]
    refine ss_frz (i := 1) rfl ?_
    dsimp only [List.set]
    repeat bv_omega
    try rfl
/-! _law_all_states -/
def stepSt (rooms : List Int) (st : List Int) : List (List Int) := ((rooms.zipIdx.filter fun p => decide ((st.count (p.2 : Int) : Int) < p.1)).map fun p => st ++ [(p.2 : Int)]) ++ [st ++ [(rooms.length : Int)]]
def allS (rooms : List Int) : Nat → List (List Int)
  | 0 => [[]]
  | i + 1 => ((allS rooms i).map (stepSt rooms)).flatten
theorem stepSt_len (rooms st : List Int) : (stepSt rooms st).length ≤ rooms.length + 1 := by
  unfold stepSt
  have := List.length_filter_le (fun p : Int × Nat => decide ((st.count (p.2 : Int) : Int) < p.1)) rooms.zipIdx
  simp only [List.length_append, List.length_map, List.length_singleton, List.length_zipIdx] at this ⊢
  omega
theorem steps_len (rooms : List Int) : ∀ l : List (List Int), ((l.map (stepSt rooms)).flatten).length ≤ l.length * (rooms.length + 1)
  | [] => by simp
  | st :: l => by
    have h1 := steps_len rooms l
    have h2 := stepSt_len rooms st
    rw [List.map_cons, List.flatten_cons, List.length_append, List.length_cons, Nat.succ_mul]
    omega
theorem allS_len {rooms : List Int} (h : rooms.length ≤ 3) : ∀ i, (allS rooms i).length ≤ 4 ^ i
  | 0 => by simp [allS]
  | i + 1 => by
    have h1 := allS_len h i
    have h2 := steps_len rooms (allS rooms i)
    have h3 : (allS rooms i).length * (rooms.length + 1) ≤ 4 ^ i * 4 := Nat.mul_le_mul h1 (by omega)
    rw [allS, Nat.pow_succ]
    omega
theorem allS_each {rooms : List Int} : ∀ (i : Nat) (st : List Int), st ∈ allS rooms i → st.length = i
  | 0, st, h => by
    simp [allS] at h
    subst h
    rfl
  | i + 1, st, h => by
    rw [allS] at h
    obtain ⟨l, hl, hs⟩ := List.mem_flatten.mp h
    obtain ⟨s0, h0, rfl⟩ := List.mem_map.mp hl
    have := allS_each i s0 h0
    unfold stepSt at hs
    rcases List.mem_append.mp hs with z | z
    · obtain ⟨p, _, rfl⟩ := List.mem_map.mp z
      simp [this]
    · simp at z
      subst z
      simp [this]
abbrev C_law_all_states : Ct := ⟨House, fun h => [hD h], fun h => 0 ≤ h.1 ∧ h.1 ≤ 5 ∧ h.2.length ≤ 3, fun h d => d = .list ((allS h.2 h.1.toNat).map tI)⟩
theorem pow4 {i : Nat} (h : i ≤ 5) : 4 ^ i ≤ 1024 := Nat.le_trans (Nat.pow_le_pow_right (by decide) h) (by decide)
theorem d_law_all_states {K : PySem.W.Frag} : DOk (t__law_all_states K) C_law_all_states n__law_all_states 1 := by
  rintro ⟨n, rooms⟩ ⟨h1, h2, h3⟩ M
  have h1 : 0 ≤ n := h1
  have h2 : n ≤ 5 := h2
  have h3 : rooms.length ≤ 3 := h3
  show SS M (t__law_all_states K) [.dat (hD (n, rooms)), .no, .no, .no, .no, .no, .no, .no] _ _
  unfold t__law_all_states
  try with_reducible refine ss_seq ?_
  refine ss_par (by simp) (by simp) (by decide) ?_
  refine ws_dat ?_
  repeat bv_omega
  refine ws_dat ?_
  repeat bv_omega
  refine ws_nil ⟨_, _, rfl, ?_⟩
  dsimp only [List.set]
  try with_reducible refine ss_seq ?_
  with_reducible refine ss_forL [3] ?_
  repeat bv_omega
  refine ⟨by omega, forOk1 (List.range n.toNat) _ (rgD_map0 n.toNat) (fun i => [.dat (hD (n, rooms)), .dat (.list ((allS rooms i).map tI)), .dat (.int (rooms.length : Nat)), .no, .no, .no, .no, .no]) ?_ (fun i t hi => ?_) ?_⟩
  · simp only [List.length_map]
    exact Le.refl _
  · have hil := (List.getElem?_eq_some_iff.mp hi).1
    rw [List.length_range] at hil
    have hall := allS_len h3 i
    have h4 := pow4 (i := i) (by omega)
    repeat bv_omega
    dsimp only [List.set]
    refine ss_setL (wl_lst ?_)
    repeat bv_omega
    dsimp only [List.set]
    try with_reducible refine ss_seq ?_
    with_reducible refine ss_forL [5] ?_
    repeat bv_omega
    refine forOk1 (allS rooms i) tI rfl (fun j => [.dat (hD (n, rooms)), .dat (.list ((allS rooms i).map tI)), .dat (.int (rooms.length : Nat)), .no, .own (((((allS rooms i).take j).map (stepSt rooms)).flatten).map tI), .no, .no, .no]) (by symm_saturate) (fun j st hj => ?_) ?_
    · have hst := allS_each i st (List.mem_of_getElem? hj)
      have hb := steps_len rooms ((allS rooms i).take j)
      have hb2 : ((allS rooms i).take j).length * (rooms.length + 1) ≤ 1024 * 4 := Nat.mul_le_mul (by rw [List.length_take]; omega) (by omega)
      have hfl := List.length_filter_le (fun p : Int × Nat => decide ((st.count (p.2 : Int) : Int) < p.1)) rooms.zipIdx
      rw [List.length_zipIdx] at hfl
      repeat bv_omega
      dsimp only [List.set]
      refine ss_extend rfl ?_
      repeat bv_omega
      refine lcOk rooms.zipIdx _ (enD_map0 rooms .int) (fun p => decide ((st.count (p.2 : Int) : Int) < p.1)) (fun p => tI (st ++ [(p.2 : Int)])) (sm_lt (by simp; omega)) (fun m ⟨r, f⟩ hp => ?_) ?_
      · dsimp only [prD, wipeD, List.set]
        repeat bv_omega
        refine ⟨rfl, fun _ => ?_⟩
        repeat bv_omega
        refine dAdd_tup (Nat.le_of_lt (sm_lt (by simp; omega))) ?_
        simp
      · refine ⟨_, rfl, Nat.le_of_lt (sm_lt ?_), ?_⟩
        · simp only [List.length_map] at *
          omega
        dsimp only [List.set]
        refine ss_append rfl ?_
        repeat bv_omega
        refine dAdd_tup (Nat.le_of_lt (sm_lt (by simp; omega))) ?_
        refine ⟨sm_lt ?_, ?_⟩
        · simp only [List.length_append, List.length_map] at *
          omega
        dsimp only [List.set]
        have e : ((((allS rooms i).take (j + 1)).map (stepSt rooms)).flatten).map tI = ((((allS rooms i).take j).map (stepSt rooms)).flatten).map tI ++ ((rooms.zipIdx.filter fun p => decide ((st.count (p.2 : Int) : Int) < p.1)).map fun p => tI (st ++ [(p.2 : Int)])) ++ [.tuple (st.map .int ++ [.int (rooms.length : Nat)])] := by
          rw [take_snoc hj, List.map_append, List.flatten_append, List.map_append]
          simp [stepSt]
        rw [e]
        symm_saturate
    · rw [List.take_of_length_le (Nat.le_refl _)]
      refine ss_frz (i := 4) rfl ?_
      dsimp only [List.set]
      refine ss_set ?_
      repeat bv_omega
      dsimp only [List.set]
      symm_saturate
  · repeat bv_omega
    rw [List.length_range]
/-! _law_fits -/
abbrev C_law_fits : Ct := ⟨House × Know × List Int, fun a => [hD a.1, kD a.2.1, tI a.2.2], fun a => a.1.1 = a.2.2.length ∧ sm a.2.2.length ∧ sm a.1.2.length ∧ KOk a.2.1 ∧ a.2.1.1.length = a.2.2.length,
  fun a d => ∃ b, d = .bool b ∧ (b = true ↔ Fits a.1.2.length a.2.1 a.2.2)⟩
theorem d_law_fits {K : PySem.W.Frag} : DOk (t__law_fits K (spP C_law_sizes) (spP C_known_sizes)) C_law_fits n__law_fits 3 := by
  rintro ⟨⟨n, rooms⟩, ⟨o, ws⟩, st⟩ ⟨h0, h1, h2, hk, h4⟩ M
  have h0 : n = st.length := h0
  have h1 : st.length ≤ 100000 := h1
  have h2 : rooms.length ≤ 100000 := h2
  have h4 : o.length = st.length := h4
  have hk : KOk (o, ws) := hk
  show SS M (t__law_fits K _ _) [.dat (hD (n, rooms)), .dat (kD (o, ws)), .dat (tI st), .no, .no, .no, .no, .no] _ _
  unfold t__law_fits
  try with_reducible refine ss_seq ?_
  with_reducible refine ss_if ?_
  repeat bv_omega
  refine callOk ((n, rooms), st) rfl ⟨h0, h1, h2⟩ ?_
  rintro d rfl
  repeat bv_omega
  refine callOk (o, ws) rfl ⟨hk.sw, hk.ne⟩ ?_
  rintro d rfl
  refine dNe_f fTI ?_
  repeat bv_omega
  refine ⟨fun hb => ?_, fun hb => ?_⟩
  · repeat bv_omega
    refine ⟨(fun z => nomatch z), fun z => ?_⟩
    simp at hb
    exact absurd z.1 hb
  · have hsz : sizesL rooms.length st = ksz (o, ws) := by simpa using hb
    repeat bv_omega
    with_reducible refine ss_forL [3, 4] ?_
    repeat bv_omega
    refine forOkI ws.zipIdx _ (enD_map0 ws tI) (fun _ => [.dat (hD (n, rooms)), .dat (kD (o, ws)), .dat (tI st), .no, .no, .no, .no, .no]) (fun j => ∀ (f : Nat) (w : List Int), f < j → ws[f]? = some w → FitW o st f w) (fun _ _ h => absurd h (Nat.not_lt_zero _)) (Le.refl _) (fun f ⟨w, f'⟩ hp Φ => ?_) fun Φ => ?_
    · obtain ⟨hf, rfl⟩ := zi hp
      have hwl : w.length = o.length + 1 := hk.len w (List.mem_of_getElem? hf)
      dsimp only [prD]
      repeat bv_omega
      dsimp only [List.set]
      refine ss_set ?_
      repeat bv_omega
      dsimp only [List.set]
      with_reducible refine ss_forL [6, 7] ?_
      repeat bv_omega
      refine forOkI o.zipIdx _ (enD_map0 o .int) (fun i => [.dat (hD (n, rooms)), .dat (kD (o, ws)), .dat (tI st), .dat (.int f'), .dat (tI w), .dat (.int (cntW st f' (o.take i))), .no, .no]) (fun i => ∀ p, p < i → w.getD (p + 1) 0 ≤ cntW st f' (o.take (p + 1))) (fun _ h => absurd h (Nat.not_lt_zero _)) (Le.refl _) (fun i ⟨t, i'⟩ hp2 Φ2 => ?_) fun Φ2 => ?_
      · obtain ⟨hi, rfl⟩ := zi hp2
        have hil := (List.getElem?_eq_some_iff.mp hi).1
        have ht := hk.rng t (List.mem_of_getElem? hi)
        have ht2 : t.toNat < o.length := ht.2
        dsimp only [prD]
        repeat bv_omega
        dsimp only [List.set]
        refine ss_aug rfl ?_
        repeat bv_omega
        refine dIx_ti ht.1 (by omega) ?_
        repeat bv_omega
        have e : cntW st f' (o.take i') + (if decide (st.getD t.toNat 0 ≤ (f' : Int)) = true then 1 else 0) = cntW st f' (o.take (i' + 1)) := (cnt_snoc (fun t => decide (st.getD t.toNat 0 ≤ (f' : Int))) hi).symm
        rw [e]
        dsimp only [List.set]
        with_reducible refine ss_if ?_
        repeat bv_omega
        refine dIx_at (i' + 1) (by omega) (by omega) ?_
        repeat bv_omega
        refine ⟨fun hb => ?_, fun hb => ?_⟩
        · repeat bv_omega
          refine ⟨(fun z => nomatch z), fun z => ?_⟩
          have := show w.getD (i' + 1) 0 ≤ cntW st f' (o.take (i' + 1)) from z.2 _ _ hf _ hil
          have hb := of_decide_eq_true hb
          omega
        · repeat bv_omega
          refine ⟨fun p hp => ?_, by symm_saturate⟩
          have hb := of_decide_eq_false hb
          by_cases e : p = i'
          · subst e
            omega
          · exact Φ2 p (by omega)
      · rw [List.length_zipIdx] at Φ2
        refine ⟨fun f w' hlt hw => ?_, by symm_saturate⟩
        by_cases e : f = f'
        · subst e
          rw [hf] at hw
          cases hw
          exact Φ2
        · exact Φ f w' (by omega) hw
    · repeat bv_omega
      rw [List.length_zipIdx] at Φ
      exact ⟨fun _ => ⟨hsz, fun f w hw => Φ f w (List.getElem?_eq_some_iff.mp hw).1 hw⟩, fun _ => rfl⟩
/-! _law_states_that_fit -/
open Classical in
noncomputable def fitS (h : House) (k : Know) : List (List Int) := (allS h.2 h.1.toNat).filter fun st => decide (Fits h.2.length k st)
abbrev C_law_states_that_fit : Ct := ⟨House × Know, fun a => [hD a.1, kD a.2], fun a => 0 ≤ a.1.1 ∧ a.1.1 ≤ 5 ∧ a.1.2.length ≤ 3 ∧ KOk a.2 ∧ a.1.1 = a.2.1.length, fun a d => d = .list ((fitS a.1 a.2).map tI)⟩
theorem d_law_states_that_fit {K : PySem.W.Frag} : DOk (t__law_states_that_fit K (spP C_law_all_states) (spP C_law_fits)) C_law_states_that_fit n__law_states_that_fit 2 := by
  rintro ⟨⟨n, rooms⟩, k⟩ ⟨h1, h2, h3, hk, h4⟩ M
  have h1 : 0 ≤ n := h1
  have h2 : n ≤ 5 := h2
  have h3 : rooms.length ≤ 3 := h3
  have h4 : n = k.1.length := h4
  have hk : KOk k := hk
  show SS M (t__law_states_that_fit K _ _) [.dat (hD (n, rooms)), .dat (kD k), .no] _ _
  unfold t__law_states_that_fit
  repeat bv_omega
  refine callOk (n, rooms) rfl ⟨h1, h2, h3⟩ ?_
  rintro d rfl
  repeat bv_omega
  have hl := allS_len h3 n.toNat
  have h5 := pow4 (i := n.toNat) (by omega)
  open Classical in
  refine lcOk (allS rooms n.toNat) tI rfl (fun st => decide (Fits rooms.length k st)) tI (sm_lt (by omega)) (fun i st hi => ?_) ?_
  · have hst := allS_each n.toNat st (List.mem_of_getElem? hi)
    dsimp only [wipeD, List.set]
    repeat bv_omega
    refine callOk ((n, rooms), k, st) rfl ⟨show n = st.length by omega, show st.length ≤ 100000 by omega, show rooms.length ≤ 100000 by omega, hk, show k.1.length = st.length by omega⟩ ?_
    rintro d ⟨b, rfl, hb⟩
    repeat bv_omega
    refine ⟨?_, fun _ => ?_⟩
    · by_cases z : Fits rooms.length k st
      · rw [hb.mpr z]
        simp [z]
      · have : b = false := Bool.eq_false_iff.mpr fun q => z (hb.mp q)
        rw [this]
        simp [z]
    · repeat bv_omega
  · rfl
/-! _law_is_small -/
abbrev C_law_is_small : Ct := ⟨House, fun h => [hD h], fun h => True, fun h d => ∃ b, d = .bool b ∧ (b = true → h.1 ≤ 5 ∧ h.2.sum ≤ 6 ∧ h.2.length ≤ 3)⟩
theorem d_law_is_small {K : PySem.W.Frag} : DOk (t__law_is_small K) C_law_is_small n__law_is_small 1 := by
  rintro ⟨n, rooms⟩ _ M
  show SS M (t__law_is_small K) [.dat (hD (n, rooms))] _ _
  unfold t__law_is_small
  repeat bv_omega
  refine ⟨fun c1 => ?_, fun _ => ⟨false, rfl, fun z => nomatch z⟩⟩
  repeat bv_omega
  refine isInts_tup ?_
  repeat bv_omega
  refine ⟨fun c2 => ?_, fun _ => ⟨false, rfl, fun z => nomatch z⟩⟩
  repeat bv_omega
  intro c3
  have c1 : n < 6 := of_decide_eq_true c1
  have c2 : rooms.sum < 7 := of_decide_eq_true c2
  have c3 := of_decide_eq_true c3
  rw [List.length_map] at c3
  have c3 : (rooms.length : Int) < 4 := c3
  show n ≤ 5 ∧ rooms.sum ≤ 6 ∧ rooms.length ≤ 3
  omega
/-! _law_least_of -/
def cntN (L l : List Int) : Int := (l.countP (fun t => decide (t ∉ L)) : Nat)
def lmax (o w L : List Int) : Nat → Int
  | 0 => 0
  | i + 1 => max (lmax o w L i) (w.getD i 0 - cntN L (o.take i))
abbrev C_law_least_of : Ct := ⟨Know × Int × List Int, fun a => [kD a.1, .int a.2.1, tI a.2.2], fun a => KOk a.1 ∧ 0 ≤ a.2.1 ∧ a.2.1.toNat < a.1.2.length, fun a d => d = .int (lmax a.1.1 (a.1.2.getD a.2.1.toNat []) a.2.2 (a.1.1.length + 1))⟩
theorem d_law_least_of {K : PySem.W.Frag} : DOk (t__law_least_of K) C_law_least_of n__law_least_of 3 := by
  rintro ⟨⟨o, ws⟩, f, L⟩ ⟨hk, h1, h2⟩ M
  have hk : KOk (o, ws) := hk
  have h1 : 0 ≤ f := h1
  have h2 : f.toNat < ws.length := h2
  have ef : f = (f.toNat : Nat) := by omega
  obtain ⟨w, hw⟩ : ∃ w, ws[f.toNat]? = some w := ⟨_, List.getElem?_eq_getElem h2⟩
  have ew : ws.getD f.toNat [] = w := by rw [List.getD_eq_getElem?_getD, hw]; rfl
  have hwl : w.length = o.length + 1 := hk.len w (List.mem_of_getElem? hw)
  have ho : o.length ≤ 10000 := hk.s0
  have hn : w ≠ [] := fun e => by rw [e] at hwl; cases hwl
  have eix : atI (ws.map tI) f = some (tI w) := by rw [ef]; exact atI_map hw
  show SS M (t__law_least_of K) [.dat (kD (o, ws)), .dat (.int f), .dat (tI L), .no, .no, .no, .no, .no] _ _
  unfold t__law_least_of
  try with_reducible refine ss_seq ?_
  refine ss_par3 (by simp) (by simp) (by simp) (by decide) (by decide) (by decide) ?_
  refine ws_dat ?_
  repeat bv_omega
  refine ws_dat ?_
  repeat bv_omega
  refine dIx_tup eix ?_
  repeat bv_omega
  refine dIx_tup (atI_last (a := PyData.int (w.getLastD 0)) (by rw [List.getLast?_map, getD_last hn]; rfl)) ?_
  refine ws_dat ?_
  repeat bv_omega
  refine ws_nil ⟨_, _, _, rfl, ?_⟩
  dsimp only [List.set]
  try with_reducible refine ss_seq ?_
  with_reducible refine ss_forL [6, 7] ?_
  repeat bv_omega
  refine dIx_tup eix ?_
  repeat bv_omega
  refine forOk1 w.zipIdx _ (enD_map0 w .int) (fun i => [.dat (kD (o, ws)), .dat (.int f), .dat (tI L), .dat (.int (lmax o w L i)), .no, .dat (.int (cntN L (o.take (i - 1)))), .no, .no]) (by symm_saturate) (fun i ⟨x, i'⟩ hp => ?_) ?_
  · obtain ⟨hi, rfl⟩ := zi hp
    have hil := (List.getElem?_eq_some_iff.mp hi).1
    have hx : w.getD i' 0 = x := by rw [List.getD_eq_getElem?_getD, hi]; rfl
    dsimp only [prD]
    repeat bv_omega
    dsimp only [List.set]
    refine ss_aug (a := cntN L (o.take (i' - 1))) rfl ?_
    refine we_imp (R' := fun d => d = .int (cntN L (o.take i') - cntN L (o.take (i' - 1)))) ?_ fun d hd => ⟨_, hd, ?_⟩
    · repeat bv_omega
      refine ⟨fun hb => ?_, fun hb => ?_⟩
      · have hb := of_decide_eq_true hb
        obtain ⟨j, rfl⟩ : ∃ j, i' = j + 1 := ⟨i' - 1, by omega⟩
        obtain ⟨t, ht⟩ : ∃ t, o[j]? = some t := ⟨_, List.getElem?_eq_getElem (by omega)⟩
        have etj : o.getD j 0 = t := by rw [List.getD_eq_getElem?_getD, ht]; rfl
        repeat bv_omega
        refine dIx_at j (by omega) (show j < o.length by omega) ?_
        repeat bv_omega
        refine dNotIn_tup ?_
        repeat bv_omega
        have e := cnt_snoc (fun t => decide (t ∉ L)) ht
        show PyData.int _ = PyData.int _
        congr 1
        unfold cntN
        rw [etj, e, Nat.add_sub_cancel]
        have : (!decide (t ∈ L)) = decide (t ∉ L) := by simp
        rw [this]
        omega
      · have hb := of_decide_eq_false hb
        have e0 : i' = 0 := by omega
        subst e0
        repeat bv_omega
        simp
    · dsimp only [List.set]
      have e : cntN L (o.take (i' - 1)) + (cntN L (o.take i') - cntN L (o.take (i' - 1))) = cntN L (o.take i') := by omega
      rw [e]
      refine ss_set ?_
      repeat bv_omega
      dsimp only [List.set]
      rw [show i' + 1 - 1 = i' from rfl, lmax, hx]
      symm_saturate
  · repeat bv_omega
    rw [ew, ← hwl, List.length_zipIdx]
/-! _law_lies -/
def Lies (k m : Know) : Prop := ksz k = ksz m ∧ ∀ (f : Nat) (w : List Int), m.2[f]? = some w → ∀ c ∈ cutsL w, w.getD c 0 ≤ lmax k.1 (k.2.getD f []) (m.1.take c) (k.1.length + 1)
abbrev C_law_lies : Ct := ⟨Know × Know, fun a => [kD a.1, kD a.2], fun a => KOk a.1 ∧ KOk a.2, fun a d => ∃ b, d = .bool b ∧ (b = true ↔ Lies a.1 a.2)⟩
theorem d_law_lies {K : PySem.W.Frag} : DOk (t__law_lies K (spP C_cuts_of) (spP C_law_least_of) (spP C_known_sizes)) C_law_lies n__law_lies 2 := by
  rintro ⟨k, o, ws⟩ ⟨hk, hm⟩ M
  have hk : KOk k := hk
  have hm : KOk (o, ws) := hm
  have ho : o.length ≤ 10000 := hm.s0
  show SS M (t__law_lies K _ _ _) [.dat (kD k), .dat (kD (o, ws)), .no, .no, .no] _ _
  unfold t__law_lies
  try with_reducible refine ss_seq ?_
  with_reducible refine ss_if ?_
  repeat bv_omega
  refine callOk k rfl ⟨hk.sw, hk.ne⟩ ?_
  rintro d rfl
  repeat bv_omega
  refine callOk (o, ws) rfl ⟨hm.sw, hm.ne⟩ ?_
  rintro d rfl
  refine dNe_f fTI ?_
  repeat bv_omega
  refine ⟨fun hb => ?_, fun hb => ?_⟩
  · have hb : ¬ ksz k = ksz (o, ws) := by simpa using hb
    repeat bv_omega
    exact ⟨(fun z => nomatch z), fun z => absurd z.1 hb⟩
  · have hb : ksz k = ksz (o, ws) := by simpa using hb
    have hlen : k.2.length = ws.length := by
      have := congrArg List.length hb
      simpa [ksz] using this
    repeat bv_omega
    with_reducible refine ss_forL [2, 3] ?_
    repeat bv_omega
    refine forOkI ws.zipIdx _ (enD_map0 ws tI) (fun _ => [.dat (kD k), .dat (kD (o, ws)), .no, .no, .no]) (fun j => ∀ (f : Nat) (w : List Int), f < j → ws[f]? = some w → ∀ c ∈ cutsL w, w.getD c 0 ≤ lmax k.1 (k.2.getD f []) (o.take c) (k.1.length + 1)) (fun _ _ h => absurd h (Nat.not_lt_zero _)) (Le.refl _) (fun f ⟨w, f'⟩ hp Φ => ?_) fun Φ => ?_
    · obtain ⟨hf, rfl⟩ := zi hp
      have hfl := (List.getElem?_eq_some_iff.mp hf).1
      have hwl : w.length = o.length + 1 := hm.len w (List.mem_of_getElem? hf)
      dsimp only [prD]
      repeat bv_omega
      dsimp only [List.set]
      with_reducible refine ss_forL [4] ?_
      repeat bv_omega
      refine callOk w rfl (by show w.length ≤ 100000; omega) ?_
      rintro d rfl
      repeat bv_omega
      refine forOkI (cutsL w) (fun p => .int (p : Nat)) rfl (fun _ => [.dat (kD k), .dat (kD (o, ws)), .dat (.int f'), .dat (tI w), .no]) (fun i => ∀ (j c : Nat), j < i → (cutsL w)[j]? = some c → w.getD c 0 ≤ lmax k.1 (k.2.getD f' []) (o.take c) (k.1.length + 1)) (fun _ _ h => absurd h (Nat.not_lt_zero _)) (Le.refl _) (fun i c hc Φ2 => ?_) fun Φ2 => ?_
      · have hcr := cuts_rng (List.mem_of_getElem? hc)
        repeat bv_omega
        dsimp only [List.set]
        with_reducible refine ss_if ?_
        repeat bv_omega
        rw [cutIu]
        repeat bv_omega
        refine callOk (k, (f' : Int), o.take c) rfl ⟨hk, Int.natCast_nonneg _, by rw [Int.toNat_natCast]; show f' < k.2.length; omega⟩ ?_
        rintro d rfl
        repeat bv_omega
        refine dIx_tin (by omega) ?_
        repeat bv_omega
        rw [Int.toNat_natCast]
        refine ⟨fun hb2 => ?_, fun hb2 => ?_⟩
        · repeat bv_omega
          refine ⟨(fun z => nomatch z), fun z => ?_⟩
          have h3 := show w.getD c 0 ≤ lmax k.1 (k.2.getD f' []) (o.take c) (k.1.length + 1) from z.2 _ _ hf _ (List.mem_of_getElem? hc)
          have hb2 := of_decide_eq_true hb2
          dsimp only at hb2
          omega
        · repeat bv_omega
          have hb2 := of_decide_eq_false hb2
          dsimp only at hb2
          refine ⟨fun j c' hj hc' => ?_, by symm_saturate⟩
          by_cases e : j = i
          · subst e
            rw [hc] at hc'
            cases hc'
            omega
          · exact Φ2 j c' (by omega) hc'
      · refine ⟨fun f w' hlt hw c hc => ?_, by symm_saturate⟩
        by_cases e : f = f'
        · subst e
          rw [hf] at hw
          cases hw
          obtain ⟨j, hj⟩ := List.getElem?_of_mem hc
          exact Φ2 j c (List.getElem?_eq_some_iff.mp hj).1 hj
        · exact Φ f w' (by omega) hw c hc
    · repeat bv_omega
      rw [List.length_zipIdx] at Φ
      exact ⟨fun _ => ⟨hb, fun f w hw => Φ f w (List.getElem?_eq_some_iff.mp hw).1 hw⟩, fun _ => rfl⟩

end
section
/-! FkE: draws from the bag. -/
theorem emod_rng (a : Int) {b : Int} (h : 0 < b) : 0 ≤ a % b ∧ a % b < b := ⟨Int.emod_nonneg a (by omega), Int.emod_lt_of_pos a h⟩
abbrev C_law_take : Ct := ⟨Int, fun m => [.int m], fun m => 0 < m ∧ m < 1073741824, fun m d => ∃ v, d = .int v ∧ 0 ≤ v ∧ v < m⟩
theorem d_law_take {K : PySem.W.Frag} {T : Addr × Str} : DOkB T (t__law_take K) C_law_take n__law_take 2 := by
  rintro (many : Int) ⟨h1, h2⟩ M hT
  show SS M (t__law_take K) [.bag, .dat (.int many), .no, .no, .no, .no, .no] _ _
  unfold t__law_take
  try with_reducible refine ss_seq ?_
  refine ss_imp (N' := fun δ' => Le δ' [.bag, .dat (.int many), .no, .no, .no, .no, .no]) ?_ ?_
  · with_reducible refine ss_if ?_
    repeat bv_omega
    intro v hv
    repeat bv_omega
    refine ⟨fun c => ?_, fun c => ?_⟩
    · try with_reducible refine ss_seq ?_
      refine ss_set ?_
      repeat bv_omega
      intro ns hn hz
      repeat bv_omega
      intro z hz0
      repeat bv_omega
      have ez : z = (z.toNat : Nat) := by have := hz0.1; omega
      rw [ez, cutD_from, ← List.map_drop]
      refine dAdd_list (ys := [.int 0]) (by rw [sizeLine_eq]; simp; omega) ?_
      have ea : (ns.drop z.toNat).map PyData.int ++ [.int 0] = ((ns.drop z.toNat) ++ [0]).map PyData.int := by simp
      rw [ea]
      repeat bv_omega
      refine dIx_li (by omega) (by simp) ?_
      generalize hcell : ((ns.drop z.toNat) ++ [0]).getD (0 : Int).toNat 0 = cell
      have hc0 : 0 ≤ cell := by
        rw [← hcell]
        cases hd : ns.drop z.toNat with
        | nil => simp
        | cons a l =>
          have : a ∈ ns := List.mem_of_mem_drop (by rw [hd]; exact .head _)
          simpa using hn a this
      dsimp only [List.set]
      try with_reducible refine ss_seq ?_
      refine ss_bagAug rfl ?_
      try with_reducible refine ss_seq ?_
      refine ss_imp (N' := fun δ' => δ' = [.bag, .dat (.int many), .dat (.int cell), .no, .no, .no, .no]) ?_ ?_
      · with_reducible refine ss_if ?_
        repeat bv_omega
        refine ⟨⟨by decide, by decide, by decide⟩, ?_⟩
        repeat bv_omega
        refine ⟨fun _ => ?_, fun _ => ?_⟩
        · refine ss_bag (k := 0) rfl (by decide) ?_
          repeat bv_omega
          exact ⟨⟨hc0, (fun z => nomatch z)⟩, rfl⟩
        · repeat bv_omega
      · rintro δ' rfl
        try with_reducible refine ss_seq ?_
        refine ss_set ?_
        repeat bv_omega
        intro y hy
        repeat bv_omega
        refine dMul_int (.inr (by decide)) ?_
        repeat bv_omega
        refine ⟨by show (0 : Int) < _; decide, ?_⟩
        repeat bv_omega
        intro z hz
        refine dMul_int (.inl (by decide)) ?_
        repeat bv_omega
        dsimp only [List.set]
        refine ss_bag (k := 1) rfl (by decide) ?_
        repeat bv_omega
        refine ⟨by show (0 : Int) < _; decide, ?_⟩
        have := emod_rng (y * 48271 + cell % 2147483647 + 7919 * z) (b := 2147483647) (by decide)
        exact ⟨_, rfl, ⟨this.1, fun _ => this.2⟩, by symm_saturate⟩
    · repeat bv_omega
      exact Le.refl _
  rintro δ' hle
  refine ss_le hle ?_
  try with_reducible refine ss_seq ?_
  with_reducible refine ss_if ?_
  repeat bv_omega
  intro x hx
  repeat bv_omega
  refine ⟨fun c => ?_, fun c => ?_⟩
  · try with_reducible refine ss_seq ?_
    refine ss_set ?_
    repeat bv_omega
    intro x hx
    repeat bv_omega
    refine ⟨h1, ?_⟩
    dsimp only [List.set]
    try with_reducible refine ss_seq ?_
    refine ss_bag (k := 0) rfl (by decide) ?_
    repeat bv_omega
    intro x2 hx2
    repeat bv_omega
    refine ⟨⟨h1, h2⟩, ?_⟩
    refine ⟨_, rfl, ⟨Int.ediv_nonneg hx2.1 (by omega), (fun z => nomatch z)⟩, ?_⟩
    repeat bv_omega
    exact emod_rng x h1
  · repeat bv_omega
    refine ss_set ?_
    repeat bv_omega
    intro y hy
    repeat bv_omega
    refine dMul_int (.inr (by decide)) ?_
    repeat bv_omega
    refine ⟨by show (0 : Int) < _; decide, ?_⟩
    have hbg2 := emod_rng ((y + 1) * 39373) (b := 1000000007) (by decide)
    dsimp only [List.set]
    try with_reducible refine ss_seq ?_
    refine ss_set ?_
    repeat bv_omega
    refine dMul_int (.inl ⟨by omega, by omega⟩) ?_
    repeat bv_omega
    refine ⟨by show (0 : Int) < _; decide, ?_⟩
    repeat bv_omega
    refine dMul_int (.inr (by decide)) ?_
    repeat bv_omega
    refine ⟨by show (0 : Int) < _; decide, ?_⟩
    dsimp only [List.set]
    repeat bv_omega
    refine ⟨⟨by decide, by decide⟩, ?_⟩
    repeat bv_omega
    refine ⟨h1, ?_⟩
    exact ⟨_, rfl, emod_rng _ h1⟩

end
section
/-! FkF: houses, states, moves. -/
variable {T : Addr × Str} {K : PySem.W.Frag}
abbrev C_law_one : Ct := ⟨List D, fun xs => [.list xs], fun xs => xs ≠ [] ∧ xs.length ≤ 100000, fun xs d => d ∈ xs⟩
theorem d_law_one : DOkB T (t__law_one K (spB T C_law_take)) C_law_one n__law_one 2 := by
  rintro (xs : List D) ⟨h1, h2⟩ M hT
  have h2 : xs.length ≤ 100000 := h2
  have h3 : 0 < xs.length := List.length_pos_iff.mpr h1
  show SS M (t__law_one K _) [.bag, .dat (.list xs)] _ _
  unfold t__law_one
  repeat bv_omega
  refine callOk (xs.length : Int) rfl ⟨by omega, by omega⟩ ?_
  rintro d ⟨v, rfl, v0, v1⟩
  have v1 : v < (xs.length : Int) := v1
  have ev : v = (v.toNat : Nat) := by omega
  have hv : v.toNat < xs.length := by omega
  obtain ⟨d, hd⟩ : ∃ d, xs[v.toNat]? = some d := ⟨_, List.getElem?_eq_getElem hv⟩
  refine dIx_list (d := d) (by rw [ev]; exact atI_lt hd) (List.mem_of_getElem? hd)
abbrev C_law_mixed : Ct := ⟨List D, fun xs => [.list xs], fun xs => xs.length ≤ 100000, fun xs d => ∃ ys : List D, d = .list ys ∧ ys.Perm xs⟩
theorem ins_perm {α : Type} (y : List α) (v : Nat) (a : α) : (y.take v ++ [a] ++ y.drop v).Perm (y ++ [a]) := by
  have h1 : (y.take v ++ [a] ++ y.drop v).Perm ([a] ++ (y.take v ++ y.drop v)) := by
    rw [← List.append_assoc]
    exact List.Perm.append_right _ List.perm_append_comm
  rw [List.take_append_drop] at h1
  exact h1.trans List.perm_append_comm
theorem d_law_mixed : DOkB T (t__law_mixed K (spB T C_law_take)) C_law_mixed n__law_mixed 2 := by
  rintro (xs : List D) h M hT
  have h : xs.length ≤ 100000 := h
  show SS M (t__law_mixed K _) [.bag, .dat (.list xs), .no, .no] _ _
  unfold t__law_mixed
  try with_reducible refine ss_seq ?_
  refine ss_setL (wl_lst ?_)
  repeat bv_omega
  dsimp only [List.set]
  try with_reducible refine ss_seq ?_
  with_reducible refine ss_forL [3] ?_
  repeat bv_omega
  refine forOkE (β := List D) xs id (by simp) (fun y => [.bag, .dat (.list xs), .own y, .no]) (fun i y => y.Perm (xs.take i)) [] (by simp) (Le.refl _) (fun i d y hi Φ => ?_) fun y Φ => ?_
  · have hil := (List.getElem?_eq_some_iff.mp hi).1
    have hyl : y.length = i := by rw [Φ.length_eq, List.length_take]; omega
    repeat bv_omega
    dsimp only [List.set]
    refine ss_insert rfl ?_
    repeat bv_omega
    refine callOk ((y.length : Int) + 1) rfl ⟨by omega, by omega⟩ ?_
    rintro d' ⟨v, rfl, v0, v1⟩
    have v1 : v < (y.length : Int) + 1 := v1
    repeat bv_omega
    refine ⟨sm_lt (by omega), v0, by omega, ?_⟩
    dsimp only [List.set]
    refine ⟨y.take v.toNat ++ [d] ++ y.drop v.toNat, ?_, by symm_saturate⟩
    rw [take_snoc hi]
    exact (ins_perm y _ d).trans (Φ.append_right _)
  · rw [List.take_of_length_le (Nat.le_refl _)] at Φ
    refine ss_frz (i := 2) rfl ?_
    dsimp only [List.set]
    repeat bv_omega
    try exact Φ
/-! houses -/
structure HOk (h : House) : Prop where
  n0 : 0 ≤ h.1
  n1 : h.1 ≤ 16
  m0 : 1 ≤ h.2.length
  m1 : h.2.length ≤ 4
  r0 : ∀ r ∈ h.2, 1 ≤ r ∧ r ≤ 12
  r1 : h.2.sum ≤ 12
abbrev C_law_house : Ct := ⟨Int × Int × Int, fun a => [.int a.1, .int a.2.1, .int a.2.2], fun a => 0 ≤ a.1 ∧ a.1 ≤ 16 ∧ 1 ≤ a.2.1 ∧ a.2.1 ≤ 4 ∧ 1 ≤ a.2.2 ∧ a.2.2 ≤ 12, fun a d => ∃ h : House, d = hD h ∧ HOk h⟩
theorem d_law_house : DOkB T (t__law_house K (spB T C_law_take) (spB T C_law_one)) C_law_house n__law_house 4 := by
  rintro ⟨things, floors, rooms⟩ ⟨h1, h2, h3, h4, h5, h6⟩ M hT
  have h1 : 0 ≤ things := h1
  have h2 : things ≤ 16 := h2
  have h3 : 1 ≤ floors := h3
  have h4 : floors ≤ 4 := h4
  have h5 : 1 ≤ rooms := h5
  have h6 : rooms ≤ 12 := h6
  show SS M (t__law_house K _ _) [.bag, .dat (.int things), .dat (.int floors), .dat (.int rooms), .no, .no, .no, .no] _ _
  unfold t__law_house
  try with_reducible refine ss_seq ?_
  refine ss_set ?_
  repeat bv_omega
  refine callOk (things + 1) rfl ⟨by omega, by omega⟩ ?_
  rintro d ⟨v, rfl, v0, v1⟩
  repeat bv_omega
  refine callOk [.int things, .int things, .int 3, .int 2, .int 1, .int 0, .int v] rfl ⟨by simp, by simp⟩ ?_
  intro d hd
  obtain ⟨many, rfl, hm0⟩ : ∃ many : Int, d = .int many ∧ 0 ≤ many := by
    simp only [List.mem_cons, List.mem_nil_iff, or_false] at hd
    rcases hd with rfl | rfl | rfl | rfl | rfl | rfl | rfl
    · exact ⟨_, rfl, h1⟩
    · exact ⟨_, rfl, h1⟩
    · exact ⟨_, rfl, by decide⟩
    · exact ⟨_, rfl, by decide⟩
    · exact ⟨_, rfl, by decide⟩
    · exact ⟨_, rfl, by decide⟩
    · exact ⟨_, rfl, v0⟩
  dsimp only [List.set]
  try with_reducible refine ss_seq ?_
  refine ss_par (by simp) (by simp) (by decide) ?_
  refine ws_own (wl_lst ?_)
  repeat bv_omega
  refine ws_dat ?_
  repeat bv_omega
  refine ws_nil ⟨_, _, rfl, ?_⟩
  dsimp only [List.set]
  try with_reducible refine ss_seq ?_
  with_reducible refine ss_forL [7] ?_
  repeat bv_omega
  refine callOk floors rfl ⟨by omega, by omega⟩ ?_
  rintro d ⟨v, rfl, v0, v1⟩
  repeat bv_omega
  refine callOk [.int floors, .int 2, .int floors, .int 1, .int (1 + v)] rfl ⟨by simp, by simp⟩ ?_
  intro d hd
  obtain ⟨cnt, rfl, hc0, hc1⟩ : ∃ c : Int, d = .int c ∧ 1 ≤ c ∧ c ≤ 4 := by
    have v1 : v < floors := v1
    simp only [List.mem_cons, List.mem_nil_iff, or_false] at hd
    rcases hd with rfl | rfl | rfl | rfl | rfl
    · exact ⟨_, rfl, h3, h4⟩
    · exact ⟨_, rfl, by decide⟩
    · exact ⟨_, rfl, h3, h4⟩
    · exact ⟨_, rfl, by decide⟩
    · exact ⟨_, rfl, by omega, by omega⟩
  repeat bv_omega
  refine ⟨by omega, ?_⟩
  refine forOkE (β := List Int) (List.range cnt.toNat) _ (rgD_map0 cnt.toNat) (fun y => [.bag, .dat (.int things), .dat (.int floors), .dat (.int rooms), .dat (.int many), .own (y.map .int), .dat (.int (rooms - y.sum)), .no]) (fun i y => y.length ≤ i ∧ (∀ r ∈ y, 1 ≤ r ∧ r ≤ 12) ∧ y.sum ≤ rooms ∧ (0 < i → y ≠ []) ∧ (y.length : Int) ≤ floors) [] ⟨by simp, by simp, by simp; omega, by simp, by simp; omega⟩ ?_ (fun i d y hi Φ => ?_) fun y Φ => ?_
  · simp only [List.sum_nil, Int.sub_zero, List.map_nil]
    symm_saturate
  · obtain ⟨p1, p2, p3, p4, p5⟩ := Φ
    have hid : d = i := by
      have := (List.getElem?_eq_some_iff.mp hi).2
      simpa using this.symm
    subst hid
    repeat bv_omega
    dsimp only [List.set]
    with_reducible refine ss_if ?_
    repeat bv_omega
    refine ⟨fun c1 => ?_, fun c1 => ?_⟩
    · have c1 := of_decide_eq_true c1
      repeat bv_omega
      refine ⟨fun c2 => ?_, fun c2 => ?_⟩
      · have c2 := of_decide_eq_true c2
        try with_reducible refine ss_seq ?_
        refine ss_append rfl ?_
        repeat bv_omega
        refine callOk rooms rfl ⟨by omega, by omega⟩ ?_
        rintro d' ⟨v, rfl, v0, v1⟩
        repeat bv_omega
        refine callOk [.int 1, .int 2, .int 1, .int 3, .int 1, .int 2, .int (1 + v)] rfl ⟨by simp, by simp⟩ ?_
        intro e he
        obtain ⟨r, rfl, hr0, hr1⟩ : ∃ r : Int, e = .int r ∧ 1 ≤ r ∧ r ≤ 12 := by
          have v1 : v < rooms := v1
          simp only [List.mem_cons, List.mem_nil_iff, or_false] at he
          rcases he with rfl | rfl | rfl | rfl | rfl | rfl | rfl
          · exact ⟨_, rfl, by decide⟩
          · exact ⟨_, rfl, by decide⟩
          · exact ⟨_, rfl, by decide⟩
          · exact ⟨_, rfl, by decide⟩
          · exact ⟨_, rfl, by decide⟩
          · exact ⟨_, rfl, by decide⟩
          · exact ⟨_, rfl, by omega, by omega⟩
        repeat bv_omega
        refine ⟨sm_lt (by simp; omega), ?_⟩
        dsimp only [List.set]
        refine ss_aug rfl ?_
        generalize hx : min (rooms - y.sum) r = x
        have hx2 : 1 ≤ x ∧ x ≤ rooms - y.sum ∧ x ≤ 12 := by omega
        have hl : atI (y.map PyData.int ++ [.int x]) (-1) = some (.int x) := atI_last (by simp)
        refine we_frz ?_
        dsimp only [frz]
        repeat bv_omega
        refine dIx_list hl ⟨rfl, x, rfl, ?_⟩
        dsimp only [List.set]
        refine ⟨y ++ [x], ⟨by simp; omega, ?_, ?_, by simp, by simp; omega⟩, ?_⟩
        · intro q hq
          rcases List.mem_append.mp hq with z | z
          · exact p2 q z
          · simp at z
            subst z
            omega
        · rw [List.sum_append]
          simp
          omega
        · have e1 : rooms - (y ++ [x]).sum = rooms - y.sum - x := by rw [List.sum_append]; simp; omega
          rw [e1, List.map_append]
          symm_saturate
      · have c2 := of_decide_eq_false c2
        repeat bv_omega
        refine ⟨y, ⟨by omega, p2, p3, fun _ => ?_, p5⟩, by symm_saturate⟩
        refine p4 ?_
        omega
    · have c1 := of_decide_eq_false c1
      refine ⟨(fun z => nomatch z), fun _ => ?_⟩
      repeat bv_omega
      refine ⟨y, ⟨by omega, p2, p3, fun _ e => ?_, p5⟩, by symm_saturate⟩
      subst e
      simp at c1
      omega
  · obtain ⟨p1, p2, p3, p4, p5⟩ := Φ
    rw [List.length_range] at p1 p4
    refine ss_frz (i := 5) rfl ?_
    dsimp only [List.set]
    repeat bv_omega
    have hne := p4 (by omega)
    refine ⟨(min many things, y), rfl, ⟨by show 0 ≤ min many things; omega, by show min many things ≤ 16; omega, List.length_pos_iff.mpr hne, by show y.length ≤ 4; omega, p2, by show y.sum ≤ 12; omega⟩⟩
abbrev C_law_some_house : Ct := ⟨List Int, fun l => [lI l], fun l => l ≠ [] ∧ l.length ≤ 1000 ∧ ∀ x ∈ l, 1 ≤ x ∧ x ≤ 16, fun a d => ∃ h : House, d = hD h ∧ HOk h⟩
theorem d_law_some_house : DOkB T (t__law_some_house K (spB T C_law_take) (spB T C_law_house) (spB T C_law_one)) C_law_some_house n__law_some_house 2 := by
  rintro (l : List Int) ⟨h1, h2, h3⟩ M hT
  have h2 : l.length ≤ 1000 := h2
  show SS M (t__law_some_house K _ _ _) [.bag, .dat (lI l), .no, .no] _ _
  unfold t__law_some_house
  try with_reducible refine ss_seq ?_
  refine ss_set ?_
  repeat bv_omega
  refine callOk (l.map .int) rfl ⟨by simpa using h1, by simp; omega⟩ ?_
  intro d hd
  obtain ⟨things, ht, rfl⟩ := List.mem_map.mp hd
  obtain ⟨t1, t2⟩ := h3 things ht
  dsimp only [List.set]
  try with_reducible refine ss_seq ?_
  refine ss_set (we_imp (R' := fun d => ∃ h : House, d = hD h ∧ HOk h) ?_ ?_)
  · repeat bv_omega
    refine ⟨fun c => ?_, fun c => ?_⟩
    · repeat bv_omega
      refine callOk (things, 3, 5) rfl ⟨by show 0 ≤ things; omega, t2, by show (1 : Int) ≤ 3 ∧ (3 : Int) ≤ 4 ∧ (1 : Int) ≤ 5 ∧ (5 : Int) ≤ 12; decide⟩ fun d h => h
    · repeat bv_omega
      refine callOk (things, 4, 12) rfl ⟨by show 0 ≤ things; omega, t2, by show (1 : Int) ≤ 4 ∧ (4 : Int) ≤ 4 ∧ (1 : Int) ≤ 12 ∧ (12 : Int) ≤ 12; decide⟩ fun d h => h
  rintro d ⟨⟨n, rooms⟩, rfl, hh⟩
  dsimp only [List.set]
  repeat bv_omega
  refine callOk (6 : Int) rfl (by decide) ?_
  rintro d ⟨v, rfl, v0, v1⟩
  repeat bv_omega
  refine ⟨fun c => ?_, fun c => ?_⟩
  · repeat bv_omega
    refine callOk (2 : Int) rfl (by decide) ?_
    rintro d ⟨v, rfl, v0, v1⟩
    repeat bv_omega
    have v1 : v < 2 := v1
    exact ⟨(things - v, rooms), rfl, ⟨by show 0 ≤ things - v; omega, by show things - v ≤ 16; omega, hh.m0, hh.m1, hh.r0, hh.r1⟩⟩
  · repeat bv_omega
    try exact ⟨(n, rooms), rfl, hh⟩

end
section
/-! FkF2: states. -/
variable {T : Addr × Str} {K : PySem.W.Frag}
/-- a state of the house -/
structure StOk (h : House) (st : List Int) : Prop where
  len : (st.length : Int) = h.1
  rng : ∀ p ∈ st, 0 ≤ p ∧ p ≤ h.2.length
  rooms : ∀ (f : Nat) (r : Int), h.2[f]? = some r → (st.count (f : Int) : Int) ≤ r
theorem count_set {st : List Int} {i : Nat} {x y f : Int} (h : st[i]? = some x) : ((st.set i y).count f : Int) = (st.count f : Int) - (if x = f then 1 else 0) + (if y = f then 1 else 0) := by
  have hi := (List.getElem?_eq_some_iff.mp h).1
  have e1 : st = st.take i ++ x :: st.drop (i + 1) := by
    have := List.getElem?_eq_some_iff.mp h
    rw [← this.2, List.getElem_cons_drop, List.take_append_drop]
  have e2 : st.set i y = st.take i ++ y :: st.drop (i + 1) := by
    rw [List.set_eq_take_append_cons_drop, if_pos hi]
  rw [e2]
  conv => rhs; rw [e1]
  rw [List.count_append, List.count_append, List.count_cons, List.count_cons]
  simp only [beq_iff_eq]
  split <;> split <;> omega
theorem ints_of_mem {l : List Int} {d : D} (h : d ∈ l.map PyData.int) : ∃ i, i ∈ l ∧ d = .int i := by
  obtain ⟨i, hi, rfl⟩ := List.mem_map.mp h
  exact ⟨i, hi, rfl⟩
/-- a permutation of encoded ints -/
theorem perm_ints {ys : List D} {l : List Int} (h : ys.Perm (l.map PyData.int)) : ∃ m : List Int, ys = m.map PyData.int ∧ m.Perm l := by
  have : ∀ ys : List D, (∀ d ∈ ys, ∃ i, d = PyData.int i) → ∃ m : List Int, ys = m.map PyData.int := by
    intro ys
    induction ys with
    | nil => intro _; exact ⟨[], rfl⟩
    | cons d ys ih =>
      intro hd
      obtain ⟨m, hm⟩ := ih fun e he => hd e (.tail _ he)
      obtain ⟨i, hi⟩ := hd d (.head _)
      exact ⟨i :: m, by rw [hm, hi]; rfl⟩
  obtain ⟨m, rfl⟩ := this ys fun d hd => by
    obtain ⟨i, _, e⟩ := ints_of_mem (h.subset hd)
    exact ⟨i, e⟩
  refine ⟨m, rfl, ?_⟩
  have g := h.map (fun d : D => match d with | .int i => i | _ => 0)
  simpa [List.map_map, Function.comp_def] using g
theorem rgD_ints (n : Nat) : rgD 0 n = ((List.range n).map fun (i : Nat) => (i : Int)).map PyData.int := by
  rw [rgD_map0, List.map_map]
  rfl
abbrev C_law_state : Ct := ⟨House, fun h => [hD h], fun h => HOk h, fun h d => ∃ st : List Int, d = tI st ∧ StOk h st⟩
theorem d_law_state : DOkB T (t__law_state K (spB T C_law_mixed) (spB T C_law_one) (spB T C_law_take)) C_law_state n__law_state 2 := by
  rintro ⟨n, rooms⟩ hh M hT
  have n0 : 0 ≤ n := hh.n0
  have n1 : n ≤ 16 := hh.n1
  have m0 : 1 ≤ rooms.length := hh.m0
  have m1 : rooms.length ≤ 4 := hh.m1
  have r0 : ∀ r ∈ rooms, 1 ≤ r ∧ r ≤ 12 := hh.r0
  show SS M (t__law_state K _ _ _) [.bag, .dat (hD (n, rooms)), .no, .no, .no, .no, .no, .no, .no, .no, .no] _ _
  unfold t__law_state
  try with_reducible refine ss_seq ?_
  refine ss_asg (is := [2, 3]) ?_
  repeat bv_omega
  dsimp only [List.set]
  try with_reducible refine ss_seq ?_
  refine ss_par3 (by simp) (by simp) (by simp) (by decide) (by decide) (by decide) ?_
  refine ws_own (wl_list ?_)
  repeat bv_omega
  refine ws_dat ?_
  repeat bv_omega
  refine callOk (4 : Int) rfl (by decide) ?_
  rintro d ⟨way, rfl, v0, v1⟩
  refine ws_own (wl_rep ?_)
  repeat bv_omega
  refine ⟨by omega, ?_⟩
  refine ws_nil ⟨_, _, _, rfl, ?_⟩
  dsimp only [List.set]
  try with_reducible refine ss_seq ?_
  with_reducible refine ss_forL [7] ?_
  repeat bv_omega
  refine we_of_wl (wl_listRg ?_)
  repeat bv_omega
  refine ⟨by omega, ?_⟩
  repeat bv_omega
  refine callOk (rgD 0 n.toNat) rfl (by show (rgD 0 n.toNat).length ≤ 100000; rw [rgD_len]; omega) ?_
  rintro d ⟨ys, rfl, hys⟩
  rw [rgD_ints] at hys
  obtain ⟨ts, rfl, hts⟩ := perm_ints hys
  repeat bv_omega
  have hnd : ts.Nodup := by
    refine (List.Perm.nodup_iff hts).mpr ?_
    exact List.Pairwise.map _ (fun a b h => by intro e; exact h (Int.ofNat_inj.mp e)) List.nodup_range
  have hrng : ∀ t ∈ ts, 0 ≤ t ∧ t.toNat < n.toNat := fun t ht => by
    obtain ⟨i, hi, rfl⟩ := List.mem_map.mp (hts.subset ht)
    have := List.mem_range.mp hi
    refine ⟨Int.natCast_nonneg _, ?_⟩
    rw [Int.toNat_natCast]
    exact this
  let S : List Int × List Int → List SD := fun y => [.bag, .dat (hD (n, rooms)), .dat (.int n), .dat (tI rooms), .own (y.1.map .int), .dat (.int way), .own (y.2.map .int), .no, .no, .no, .no]
  refine forOkE (β := List Int × List Int) ts .int rfl S (fun i y => y.1.length = rooms.length ∧ y.2.length = n.toNat ∧ (∀ p ∈ y.2, 0 ≤ p ∧ p ≤ rooms.length) ∧ (∀ (f : Nat) (r : Int), rooms[f]? = some r → y.1.getD f 0 = r - (y.2.count (f : Int) : Nat) ∧ 0 ≤ y.1.getD f 0) ∧ (∀ t ∈ ts.drop i, y.2[t.toNat]? = some (rooms.length : Int)))
    (rooms, List.replicate n.toNat (rooms.length : Int)) ⟨rfl, by simp, ?_, ?_, ?_⟩ ?_ (fun i t y hi Φ => ?_) fun y Φ => ?_
  · intro p hp
    rw [List.eq_of_mem_replicate hp]
    omega
  · intro f r hr
    have hfl := (List.getElem?_eq_some_iff.mp hr).1
    have e : (List.replicate n.toNat (rooms.length : Int)).count (f : Int) = 0 := by
      rw [List.count_eq_zero]
      intro z
      have := List.eq_of_mem_replicate z
      omega
    have e2 : rooms.getD f 0 = r := by rw [List.getD_eq_getElem?_getD, hr]; rfl
    have := r0 r (List.mem_of_getElem? hr)
    show rooms.getD f 0 = r - _ ∧ 0 ≤ rooms.getD f 0
    rw [e, e2]
    omega
  · intro t ht
    have := hrng t ((List.drop_sublist 0 ts).subset (by simpa using ht))
    show (List.replicate n.toNat (rooms.length : Int))[t.toNat]? = _
    rw [List.getElem?_replicate, if_pos this.2]
  · simp only [List.length_map, List.map_replicate, S]
    exact Le.refl _
  · obtain ⟨L, st⟩ := y
    obtain ⟨p1, p2, p3, p4, p5⟩ := Φ
    have p1 : L.length = rooms.length := p1
    have p2 : st.length = n.toNat := p2
    have ht := hrng t (List.mem_of_getElem? hi)
    have hil := (List.getElem?_eq_some_iff.mp hi).1
    have hdrop : ts.drop i = t :: ts.drop (i + 1) := by
      rw [List.drop_eq_getElem_cons hil, (List.getElem?_eq_some_iff.mp hi).2]
    have hst : st[t.toNat]? = some (rooms.length : Int) := p5 t (by rw [hdrop]; exact .head _)
    have hnew : ∀ u ∈ ts.drop (i + 1), u.toNat ≠ t.toNat := fun u hu e => by
      have h1 := hrng u (by have := List.mem_of_mem_drop hu; exact this)
      have : u = t := by omega
      subst this
      have h2 : (ts.drop i).Nodup := List.Nodup.sublist (List.drop_sublist _ _) hnd
      rw [hdrop, List.nodup_cons] at h2
      exact h2.1 hu
    dsimp only [S]
    bv_omega
    dsimp only [List.set]
    try with_reducible refine ss_seq ?_
    refine ss_set (we_of_wl (wl_lcL ?_))
    refine wj_enO rfl ?_
    refine lcOk L.zipIdx _ (enD_map0 L .int) (fun p => decide (0 < p.1)) (fun p => .int (p.2 : Nat)) (sm_lt (by simp; omega)) (fun j ⟨v, f⟩ hp => ?_) ?_
    · dsimp only [prD, wipeD, List.set]
      repeat bv_omega
      refine ⟨rfl, fun _ => ?_⟩
      repeat bv_omega
    generalize hop : (L.zipIdx.filter fun p => decide (0 < p.1)).map (fun p => PyData.int (p.2 : Nat)) = op
    have hopm : ∀ d ∈ op, ∃ f : Nat, d = .int f ∧ f < rooms.length ∧ 0 < L.getD f 0 := fun d hd => by
      rw [← hop] at hd
      obtain ⟨⟨v, f⟩, hp, rfl⟩ := List.mem_map.mp hd
      obtain ⟨hp1, hp2⟩ := List.mem_filter.mp hp
      obtain ⟨j, hj⟩ := List.getElem?_of_mem hp1
      obtain ⟨hj, rfl⟩ := zi hj
      have := (List.getElem?_eq_some_iff.mp hj).1
      refine ⟨f, rfl, by omega, ?_⟩
      rw [List.getD_eq_getElem?_getD, hj]
      exact of_decide_eq_true hp2
    have hopl : op.length ≤ 4 := by
      have := List.length_filter_le (fun p : Int × Nat => decide (0 < p.1)) L.zipIdx
      rw [← hop, List.length_map]
      simp only [List.length_zipIdx] at this
      omega
    have hops : SeqAt.shaped (.list op) = true := by
      rw [← hop]
      have := (Faith.int.lst).shaped (by decide) ((L.zipIdx.filter fun p => decide (0 < p.1)).map fun p => ((p.2 : Nat) : Int))
      simpa [List.map_map, Function.comp_def] using this
    dsimp only [List.set]
    try with_reducible refine ss_seq ?_
    -- behind the choice: the state's place has a floor that is open, or is as it was
    refine ss_imp (N' := fun δ' => ∃ x : Int, (x = rooms.length ∨ ∃ f : Nat, x = f ∧ f < rooms.length ∧ 0 < L.getD f 0) ∧ δ' = [.bag, .dat (hD (n, rooms)), .dat (.int n), .dat (tI rooms), .own (L.map .int), .dat (.int way), .own ((st.set t.toNat x).map .int), .dat (.int t), .dat (.list op), .no, .no]) ?_ ?_
    · have hne : ∀ {R : D → Prop}, R (.bool (!op.isEmpty)) → dNe (.list op) (.list []) R := fun {R} r => by
        refine ⟨hops, rfl, ?_⟩
        have e : PyData.eqv (.list op) (.list []) = op.isEmpty := by
          rw [PyData.eqv]
          cases op <;> rfl
        rw [e]
        exact r
      have hsame : st.set t.toNat (rooms.length : Int) = st := by
        refine List.ext_getElem? fun j => ?_
        by_cases e : t.toNat = j
        · subst e
          rw [List.getElem?_set_self (List.getElem?_eq_some_iff.mp hst).1, hst]
        · rw [List.getElem?_set_ne e]
      have keep : ∃ x : Int, (x = rooms.length ∨ ∃ f : Nat, x = f ∧ f < rooms.length ∧ 0 < L.getD f 0) ∧ ([.bag, .dat (hD (n, rooms)), .dat (.int n), .dat (tI rooms), .own (L.map .int), .dat (.int way), .own (st.map .int), .dat (.int t), .dat (.list op), .no, .no] : List SD) = [.bag, .dat (hD (n, rooms)), .dat (.int n), .dat (tI rooms), .own (L.map .int), .dat (.int way), .own ((st.set t.toNat x).map .int), .dat (.int t), .dat (.list op), .no, .no] :=
        ⟨_, .inl rfl, by rw [hsame]⟩
      have put : ∀ d, (d ∈ op ∨ d = .int (rooms.length : Nat)) → t.toNat < (st.map PyData.int).length ∧ ∃ x : Int, (x = rooms.length ∨ ∃ f : Nat, x = f ∧ f < rooms.length ∧ 0 < L.getD f 0) ∧ ([.bag, .dat (hD (n, rooms)), .dat (.int n), .dat (tI rooms), .own (L.map .int), .dat (.int way), .own (st.map .int), .dat (.int t), .dat (.list op), .no, .no] : List SD).set 6 (.own ((st.map .int).set t.toNat d)) = [.bag, .dat (hD (n, rooms)), .dat (.int n), .dat (tI rooms), .own (L.map .int), .dat (.int way), .own ((st.set t.toNat x).map .int), .dat (.int t), .dat (.list op), .no, .no] := fun d hd => by
        refine ⟨by rw [List.length_map, p2]; exact ht.2, ?_⟩
        rcases hd with hd | rfl
        · obtain ⟨f, rfl, hf⟩ := hopm d hd
          exact ⟨f, .inr ⟨f, rfl, hf⟩, by dsimp only [List.set]; rw [set_map]⟩
        · exact ⟨_, .inl rfl, by dsimp only [List.set]; rw [set_map]⟩
      have et : t = (t.toNat : Nat) := (Int.toNat_of_nonneg ht.1).symm
      have second : SS M (tIfS (tAnd (tTest (tOp (rI0 fun i j => .bl (decide (j < i))) (tVar 5) (tC (.int 1)))) (tTest (tOp (rNeD K) (tVar 8) (tLst tNil)))) (tAsg (tCall (spB T C_law_one) [] E0 (tCons (tVar 0) (tCons (tOp rAdd3 (tVar 8) (tOp rMul3 (tLst (tCons (tCB (rLen K) (tCons (tVar 3) tNil)) tNil)) (tOp (rI0 fun i j => .int (i - j)) (tVar 5) (tC (.int 2))))) tNil))) (gSub (tVar 6) (tVar 7) rSetL)) tNext)
        [.bag, .dat (hD (n, rooms)), .dat (.int n), .dat (tI rooms), .own (L.map .int), .dat (.int way), .own (st.map .int), .dat (.int t), .dat (.list op), .no, .no] (fun δ' => ∃ x : Int, (x = rooms.length ∨ ∃ f : Nat, x = f ∧ f < rooms.length ∧ 0 < L.getD f 0) ∧ δ' = [.bag, .dat (hD (n, rooms)), .dat (.int n), .dat (tI rooms), .own (L.map .int), .dat (.int way), .own ((st.set t.toNat x).map .int), .dat (.int t), .dat (.list op), .no, .no]) ⟨fun d => ∃ st : List Int, d = tI st ∧ StOk (n, rooms) st, fun _ => False, fun _ => False⟩ := by
        refine ss_if (wt_eq (R' := fun b => b = true → 1 < way ∧ op ≠ []) ?_ fun b hb => ⟨fun z => ?_, fun _ => ?_⟩)
        · repeat bv_omega
          refine ⟨fun c => ?_, fun c => ?_⟩
          · repeat bv_omega
            refine hne ?_
            repeat bv_omega
            intro z
            exact ⟨of_decide_eq_true c, fun e => by rw [e] at z; cases z⟩
          · try exact fun z => nomatch z
        · obtain ⟨hw, hne2⟩ := hb z
          refine ss_item rfl ?_
          repeat bv_omega
          refine dMul_list (by omega) ?_
          refine dAdd_list (by rw [sizeLine_eq, List.length_replicate]; omega) ?_
          repeat bv_omega
          refine callOk (op ++ List.replicate (way - 2).toNat (.int (rooms.length : Nat))) (by simp) ⟨by simp [hne2], by rw [List.length_append, List.length_replicate]; omega⟩ ?_
          intro d hd
          repeat bv_omega
          refine ⟨t.toNat, by rw [← et], ?_⟩
          refine put d ?_
          rcases List.mem_append.mp hd with z | z
          · exact .inl z
          · exact .inr (List.eq_of_mem_replicate z)
        · repeat bv_omega
          try exact keep
      refine ss_if (wt_eq (R' := fun b => b = true → op ≠ []) ?_ fun b hb => ⟨fun z => ?_, fun _ => ?_⟩)
      · repeat bv_omega
        refine ⟨fun c => ?_, fun c => ?_⟩
        · repeat bv_omega
          refine hne ?_
          repeat bv_omega
          intro z e
          rw [e] at z
          cases z
        · try exact fun z => nomatch z
      · have hne2 := hb z
        refine ss_item rfl ?_
        repeat bv_omega
        cases hcase : op with
        | nil => exact absurd hcase hne2
        | cons d op' =>
          refine dIx_list (d := d) (atI_lt (l := d :: op') (i := 0) rfl) ?_
          repeat bv_omega
          refine ⟨t.toNat, by rw [← et], ?_⟩
          have := put d (.inl (by rw [hcase]; exact .head _))
          rw [hcase] at this
          exact this
      · exact ss_K second (fun _ n => n) (fun _ n => n) (fun _ n => n.elim) fun _ n => n.elim
    rintro δ' ⟨x, hx, rfl⟩
    have hx0 : 0 ≤ x ∧ x ≤ rooms.length := by
      rcases hx with rfl | ⟨f, rfl, hf, _⟩ <;> omega
    have hset : (st.set t.toNat x)[t.toNat]? = some x := List.getElem?_set_self (List.getElem?_eq_some_iff.mp hst).1
    have hgx : (st.set t.toNat x).getD t.toNat 0 = x := by rw [List.getD_eq_getElem?_getD, hset]; rfl
    have hget : atI ((st.set t.toNat x).map PyData.int) t = some (.int x) := by
      rw [(Int.toNat_of_nonneg ht.1).symm]
      exact atI_map hset
    have hall : ∀ p ∈ st.set t.toNat x, 0 ≤ p ∧ p ≤ (rooms.length : Int) := fun p hp => by
      rcases List.mem_or_eq_of_mem_set hp with z | z
      · exact p3 p z
      · subst z; exact hx0
    have hrest : ∀ u ∈ ts.drop (i + 1), (st.set t.toNat x)[u.toNat]? = some (rooms.length : Int) := fun u hu => by
      rw [List.getElem?_set_ne (Ne.symm (hnew u hu))]
      exact p5 u (by rw [hdrop]; exact .tail _ hu)
    have hcnt : ∀ f : Nat, f < rooms.length → (((st.set t.toNat x).count (f : Int) : Nat) : Int) = (st.count (f : Int) : Nat) + (if x = (f : Int) then 1 else 0) := fun f hf => by
      have := count_set (f := (f : Int)) (y := x) hst
      rw [if_neg (show ¬ (rooms.length : Int) = (f : Int) by omega)] at this
      omega
    with_reducible refine ss_if ?_
    repeat bv_omega
    refine ⟨_, _, rfl, hget, ?_⟩
    repeat bv_omega
    refine ⟨fun c => ?_, fun c => ?_⟩
    · have c := of_decide_eq_true c
      rw [List.length_map] at c
      obtain ⟨f, rfl, hf, hpos⟩ : ∃ f : Nat, x = f ∧ f < rooms.length ∧ 0 < L.getD f 0 := by
        rcases hx with z | z
        · omega
        · exact z
      refine ss_augItem rfl ?_
      repeat bv_omega
      refine ⟨_, _, rfl, hget, ?_⟩
      refine ⟨f, L.getD f 0, rfl, by rw [List.getElem?_map, getD_some (by omega)]; rfl, ?_⟩
      repeat bv_omega
      dsimp only [List.set]
      rw [set_map]
      refine ⟨(L.set f (L.getD f 0 - 1), st.set t.toNat (f : Int)), ⟨by rw [List.length_set]; exact p1, by rw [List.length_set]; exact p2, hall, fun g r hr => ?_, hrest⟩, by symm_saturate⟩
      have hg := (List.getElem?_eq_some_iff.mp hr).1
      obtain ⟨q1, q2⟩ := p4 g r hr
      have q1 : L.getD g 0 = r - (st.count (g : Int) : Nat) := q1
      have q2 : 0 ≤ L.getD g 0 := q2
      show (L.set f (L.getD f 0 - 1)).getD g 0 = _ ∧ 0 ≤ (L.set f (L.getD f 0 - 1)).getD g 0
      rw [hcnt g hg]
      by_cases e : f = g
      · subst e
        have : (L.set f (L.getD f 0 - 1)).getD f 0 = L.getD f 0 - 1 := by
          rw [List.getD_eq_getElem?_getD, List.getElem?_set_self (by omega)]
          rfl
        rw [this, if_pos rfl]
        omega
      · have : (L.set f (L.getD f 0 - 1)).getD g 0 = L.getD g 0 := by
          rw [List.getD_eq_getElem?_getD, List.getElem?_set_ne e, ← List.getD_eq_getElem?_getD]
        rw [this, if_neg (by omega)]
        omega
    · have c := of_decide_eq_false c
      rw [List.length_map] at c
      have hxm : x = rooms.length := by
        rcases hx with z | ⟨f, rfl, hf, _⟩
        · exact z
        · omega
      repeat bv_omega
      refine ⟨(L, st.set t.toNat x), ⟨p1, by rw [List.length_set]; exact p2, hall, fun g r hr => ?_, hrest⟩, by symm_saturate⟩
      have hg := (List.getElem?_eq_some_iff.mp hr).1
      obtain ⟨q1, q2⟩ := p4 g r hr
      have q1 : L.getD g 0 = r - (st.count (g : Int) : Nat) := q1
      have q2 : 0 ≤ L.getD g 0 := q2
      show L.getD g 0 = _ ∧ 0 ≤ L.getD g 0
      rw [hcnt g hg, if_neg (by omega)]
      omega
  · obtain ⟨L, st⟩ := y
    obtain ⟨p1, p2, p3, p4, p5⟩ := Φ
    have p2 : st.length = n.toNat := p2
    refine ss_frz (i := 6) rfl ?_
    dsimp only [List.set]
    repeat bv_omega
    refine ⟨by show (st.length : Int) = n; omega, p3, fun f r hr => ?_⟩
    obtain ⟨q1, q2⟩ := p4 f r hr
    have q1 : L.getD f 0 = r - (st.count (f : Int) : Nat) := q1
    have q2 : 0 ≤ L.getD f 0 := q2
    omega

end
section
/-! FkF3: starts, moves. -/
variable {T : Addr × Str} {K : PySem.W.Frag}
def placesL (k : Nat) : List Int → List Int
  | [] => []
  | r :: rs => List.replicate r.toNat (k : Int) ++ placesL (k + 1) rs
theorem places_eq : ∀ (rs : List Int) (k : Nat), ((rs.zipIdx k).map fun p => List.replicate p.1.toNat (PyData.int (p.2 : Nat))).flatten = (placesL k rs).map PyData.int
  | [], k => rfl
  | r :: rs, k => by
    rw [List.zipIdx_cons, List.map_cons, List.flatten_cons, places_eq rs (k + 1), placesL, List.map_append, List.map_replicate]
theorem places_len : ∀ (rs : List Int) (k : Nat), (∀ r ∈ rs, 0 ≤ r) → ((placesL k rs).length : Int) = rs.sum
  | [], k, _ => rfl
  | r :: rs, k, h => by
    have h1 := places_len rs (k + 1) fun x hx => h x (.tail _ hx)
    have h2 := h r (.head _)
    rw [placesL, List.length_append, List.length_replicate, List.sum_cons]
    omega
theorem places_rng : ∀ (rs : List Int) (k : Nat), ∀ p ∈ placesL k rs, (k : Int) ≤ p ∧ p < ((k + rs.length : Nat) : Int)
  | [], k, p, h => by cases h
  | r :: rs, k, p, h => by
    rw [placesL] at h
    rcases List.mem_append.mp h with z | z
    · rw [List.eq_of_mem_replicate z, List.length_cons]
      omega
    · have := places_rng rs (k + 1) p z
      rw [List.length_cons]
      omega
theorem places_cnt : ∀ (rs : List Int) (k f : Nat) (r : Int), rs[f]? = some r → 0 ≤ r → (((placesL k rs).count ((k + f : Nat) : Int) : Nat) : Int) = r
  | [], k, f, r, h, _ => by simp at h
  | r0 :: rs, k, 0, r, h, h0 => by
    simp at h
    subst h
    have e : (placesL (k + 1) rs).count ((k + 0 : Nat) : Int) = 0 := by
      rw [List.count_eq_zero]
      intro z
      have := places_rng rs (k + 1) _ z
      omega
    rw [placesL, List.count_append, e, Nat.add_zero, Nat.add_zero, List.count_replicate_self]
    omega
  | r0 :: rs, k, f + 1, r, h, h0 => by
    have ih := places_cnt rs (k + 1) f r (by simpa using h) h0
    have e : (List.replicate r0.toNat (k : Int)).count ((k + (f + 1) : Nat) : Int) = 0 := by
      rw [List.count_eq_zero]
      intro z
      have := List.eq_of_mem_replicate z
      omega
    rw [placesL, List.count_append, e, Nat.zero_add, show k + (f + 1) = k + 1 + f by omega]
    exact ih
theorem HOk.r00 {h : House} (hh : HOk h) : ∀ r ∈ h.2, 0 ≤ r := fun r hr => by have := hh.r0 r hr; omega
abbrev C_law_full_state : Ct := ⟨House, fun h => [hD h], fun h => HOk h ∧ h.2.sum ≤ h.1, fun h d => ∃ st : List Int, d = tI st ∧ StOk h st⟩
theorem d_law_full_state : DOkB T (t__law_full_state K (spB T C_law_mixed) (spP C_law_flat)) C_law_full_state n__law_full_state 2 := by
  rintro ⟨n, rooms⟩ ⟨hh, hsum⟩ M hT
  have n0 : 0 ≤ n := hh.n0
  have n1 : n ≤ 16 := hh.n1
  have m1 : rooms.length ≤ 4 := hh.m1
  have r0 : ∀ r ∈ rooms, 1 ≤ r ∧ r ≤ 12 := hh.r0
  have hsum : rooms.sum ≤ n := hsum
  have r1 : rooms.sum ≤ 12 := hh.r1
  have hpl := places_len rooms 0 hh.r00
  have hpr := places_rng rooms 0
  show SS M (t__law_full_state K _ _) [.bag, .dat (hD (n, rooms)), .no, .no, .no] _ _
  unfold t__law_full_state
  try with_reducible refine ss_seq ?_
  refine ss_set ?_
  repeat bv_omega
  refine lcOkM rooms.zipIdx _ (enD_map0 rooms .int) (fun p => .list (List.replicate p.1.toNat (.int (p.2 : Nat)))) (sm_lt (by simp; omega)) (fun j ⟨r, f⟩ hp => ?_) ?_
  · obtain ⟨hj, rfl⟩ := zi hp
    have hr := r0 r (List.mem_of_getElem? hj)
    dsimp only [prD, wipeD, List.set]
    repeat bv_omega
    refine ⟨rfl, ?_⟩
    repeat bv_omega
    exact dMul_list (by omega) rfl
  repeat bv_omega
  have ef := places_eq rooms 0
  refine callOk (rooms.zipIdx.map fun p => List.replicate p.1.toNat (PyData.int (p.2 : Nat))) (by simp [List.map_map, Function.comp_def]) (by show (List.flatten _).length ≤ _; rw [ef, List.length_map]; omega) ?_
  rintro d rfl
  dsimp only
  rw [ef]
  generalize hP : placesL 0 rooms = P at *
  dsimp only [List.set]
  repeat bv_omega
  refine dMul_list (by rw [List.length_map]; omega) ?_
  refine dAdd_list (by rw [sizeLine_eq, List.length_replicate]; simp only [List.length_map]; omega) ?_
  have ea : P.map PyData.int ++ List.replicate (n - ((P.map PyData.int).length : Nat)).toNat (PyData.int (((rooms.map PyData.int).length : Nat) : Int)) = (P ++ List.replicate (n - (P.length : Nat)).toNat (rooms.length : Int)).map PyData.int := by
    simp
  rw [ea]
  repeat bv_omega
  refine callOk ((P ++ List.replicate (n - (P.length : Nat)).toNat (rooms.length : Int)).map PyData.int) rfl (by show (List.map _ _).length ≤ _; rw [List.length_map, List.length_append, List.length_replicate]; omega) ?_
  rintro d ⟨ys, rfl, hys⟩
  obtain ⟨st, rfl, hst⟩ := perm_ints hys
  repeat bv_omega
  refine ⟨by show (st.length : Int) = n; rw [hst.length_eq, List.length_append, List.length_replicate]; omega, fun p hp => ?_, fun f r hr => ?_⟩
  · rcases List.mem_append.mp (hst.subset hp) with z | z
    · have := hpr p z
      show 0 ≤ p ∧ p ≤ (rooms.length : Int)
      omega
    · rw [List.eq_of_mem_replicate z]
      show 0 ≤ (rooms.length : Int) ∧ (rooms.length : Int) ≤ (rooms.length : Int)
      omega
  · have hfl := (List.getElem?_eq_some_iff.mp hr).1
    have hfl : f < rooms.length := hfl
    have hr0 := r0 r (List.mem_of_getElem? hr)
    have e := places_cnt rooms 0 f r hr (by omega)
    rw [hP, Nat.zero_add] at e
    have e2 : (List.replicate (n - (P.length : Nat)).toNat (rooms.length : Int)).count (f : Int) = 0 := by
      rw [List.count_eq_zero]
      intro z
      have := List.eq_of_mem_replicate z
      omega
    rw [hst.count_eq, List.count_append, e2]
    omega
theorem out_ok {h : House} (hh : HOk h) : StOk h (List.replicate h.1.toNat (h.2.length : Int)) := by
  have := hh.n0
  refine ⟨by rw [List.length_replicate]; omega, fun p hp => ?_, fun f r hr => ?_⟩
  · rw [List.eq_of_mem_replicate hp]
    omega
  · have hfl := (List.getElem?_eq_some_iff.mp hr).1
    have hr0 := hh.r00 r (List.mem_of_getElem? hr)
    have e2 : (List.replicate h.1.toNat (h.2.length : Int)).count (f : Int) = 0 := by
      rw [List.count_eq_zero]
      intro z
      have := List.eq_of_mem_replicate z
      omega
    rw [e2]
    omega
def StartOk (h : House) (d : D) : Prop := (d = .none ∧ h.2.sum ≤ h.1) ∨ ∃ st : List Int, d = tI st ∧ StOk h st
abbrev C_law_start : Ct := ⟨House, fun h => [hD h], fun h => HOk h, fun h d => StartOk h d⟩
theorem d_law_start : DOkB T (t__law_start K (spB T C_law_one) (spB T C_law_state)) C_law_start n__law_start 2 := by
  rintro ⟨n, rooms⟩ hh M hT
  have n0 : 0 ≤ n := hh.n0
  have n1 : n ≤ 16 := hh.n1
  show SS M (t__law_start K _ _) [.bag, .dat (hD (n, rooms)), .no] _ _
  unfold t__law_start
  try with_reducible refine ss_seq ?_
  refine ss_set (we_of_wl (wl_lst ?_))
  repeat bv_omega
  refine dMul_tup (by omega) ?_
  repeat bv_omega
  refine callOk (n, rooms) rfl hh ?_
  rintro d1 ⟨s1, rfl, h1⟩
  repeat bv_omega
  refine callOk (n, rooms) rfl hh ?_
  rintro d2 ⟨s2, rfl, h2⟩
  repeat bv_omega
  dsimp only [List.set]
  repeat bv_omega
  refine isInts_tup ?_
  repeat bv_omega
  refine dMul_list (by split <;> omega) ?_
  refine dAdd_list (by rw [sizeLine_eq, List.length_replicate]; simp; split <;> omega) ?_
  repeat bv_omega
  refine callOk ([.tuple (List.replicate n.toNat (.int ((rooms.map PyData.int).length : Nat))), tI s1, tI s2] ++ List.replicate (if decide (rooms.sum ≤ n) = true then (1 : Int) else 0).toNat .none) rfl ⟨by simp, by rw [List.length_append, List.length_replicate]; simp; split <;> omega⟩ ?_
  intro d hd
  have e0 : PyData.tuple (List.replicate n.toNat (PyData.int ((rooms.map PyData.int).length : Nat))) = tI (List.replicate n.toNat (rooms.length : Int)) := by simp
  rw [e0] at hd
  rcases List.mem_append.mp hd with z | z
  · simp only [List.mem_cons, List.mem_nil_iff, or_false] at z
    rcases z with rfl | rfl | rfl
    · exact .inr ⟨_, rfl, out_ok hh⟩
    · exact .inr ⟨_, rfl, h1⟩
    · exact .inr ⟨_, rfl, h2⟩
  · have e := List.eq_of_mem_replicate z
    refine .inl ⟨e, ?_⟩
    have hne := List.ne_nil_of_mem z
    by_cases hs : rooms.sum ≤ n
    · exact hs
    · rw [if_neg (by simpa using hs)] at hne
      exact absurd rfl hne

end
section
/-! FkF4: moves. -/
variable {T : Addr × Str} {K : PySem.W.Frag}
/-- the things that go down in turn, from floor i on -/
def runM : List Int → Nat → List Int → List Int
  | now, _, [] => now
  | now, i, d :: ds => runM (now.set d.toNat ((i : Int) + 1)) (i + 1) ds
def Step (rooms : List Int) (t : Int) (now : List Int) (i : Nat) (d : Int) : Prop := i < rooms.length ∧ rooms.getD i 0 < (now.count (i : Int) : Nat) ∧ 0 ≤ d ∧ now[d.toNat]? = some (i : Int) ∧ ¬ (i = 0 ∧ d = t)
def EndM (rooms : List Int) (now : List Int) (i : Nat) : Prop := rooms.length ≤ i ∨ (now.count (i : Int) : Nat) ≤ rooms.getD i 0
def Good (rooms : List Int) (t : Int) : List Int → Nat → List Int → Prop
  | now, i, [] => EndM rooms now i
  | now, i, d :: ds => Step rooms t now i d ∧ Good rooms t (now.set d.toNat ((i : Int) + 1)) (i + 1) ds
inductive Pre (rooms : List Int) (t : Int) (now0 : List Int) : List Int → List Int → Prop
  | nil : Pre rooms t now0 [] now0
  | snoc {ds : List Int} {now : List Int} {d : Int} : Pre rooms t now0 ds now → Step rooms t now ds.length d → Pre rooms t now0 (ds ++ [d]) (now.set d.toNat ((ds.length : Int) + 1))
theorem Pre.good {rooms : List Int} {t : Int} {now0 ds now : List Int} (h : Pre rooms t now0 ds now) : ∀ rest, (Good rooms t now ds.length rest → Good rooms t now0 0 (ds ++ rest)) ∧ runM now ds.length rest = runM now0 0 (ds ++ rest) := by
  induction h with
  | nil => intro rest; exact ⟨fun g => g, rfl⟩
  | snoc h s ih =>
    intro rest
    rename_i ds now d
    obtain ⟨i1, i2⟩ := ih (d :: rest)
    rw [List.length_append, List.length_singleton, List.append_assoc]
    exact ⟨fun g => i1 ⟨s, g⟩, i2⟩
theorem run_len : ∀ (ds now : List Int) (i : Nat), (runM now i ds).length = now.length
  | [], now, i => rfl
  | d :: ds, now, i => by rw [runM, run_len, List.length_set]
/-- a move: struck, or asked with the things that go down -/
inductive Mv where
  | strike (t : Int)
  | ask (t : Int) (ds : List Int)
abbrev mvD : Mv → D
  | .strike t => .tuple [.str "strike", .int t, .tuple []]
  | .ask t ds => .tuple [.str "ask", .int t, tI ds]
def mvOk (h : House) (st : List Int) : Mv → Prop
  | .strike t => 0 ≤ t ∧ t < h.1
  | .ask t ds => 0 ≤ t ∧ t < h.1 ∧ Good h.2 t (st.set t.toNat 0) 0 ds
def mvRes (h : House) (st : List Int) : Mv → List Int
  | .strike t => st.set t.toNat (h.2.length : Int)
  | .ask t ds => runM (st.set t.toNat 0) 0 ds
theorem dEq_str {a b : Str} {R : D → Prop} (ha : PyData.canLay0 (.str a) = true) (hb : PyData.canLay0 (.str b) = true) (r : R (.bool (a == b))) : dEq (.str a) (.str b) R :=
  ⟨by unfold SeqAt.shaped; rw [ha]; rfl, by unfold SeqAt.shaped; rw [hb]; rfl, r⟩
abbrev C_law_done : Ct := ⟨House × List Int × Mv, fun a => [hD a.1, tI a.2.1, mvD a.2.2], fun a => HOk a.1 ∧ (a.2.1.length : Int) = a.1.1 ∧ mvOk a.1 a.2.1 a.2.2, fun a d => d = tI (mvRes a.1 a.2.1 a.2.2)⟩
theorem d_law_done : DOk (t__law_done K) C_law_done n__law_done 3 := by
  rintro ⟨⟨n, rooms⟩, st, mv⟩ ⟨hh, hl, hm⟩ M
  have n1 : n ≤ 16 := hh.n1
  have hl : (st.length : Int) = n := hl
  unfold t__law_done
  cases mv with
  | strike t =>
    obtain ⟨t0, t1⟩ := hm
    have t1 : t < n := t1
    show SS M _ [.dat (hD (n, rooms)), .dat (tI st), .dat (.tuple [.str "strike", .int t, .tuple []]), .no, .no, .no, .no, .no, .no, .no, .no] _ _
    try with_reducible refine ss_seq ?_
    refine ss_asg (is := [3, 4, 5]) ?_
    repeat bv_omega
    dsimp only [List.set]
    try with_reducible refine ss_seq ?_
    refine ss_par (by simp) (by simp) (by decide) ?_
    refine ws_dat ?_
    repeat bv_omega
    refine ws_own (wl_list ?_)
    repeat bv_omega
    refine ws_nil ⟨_, _, rfl, ?_⟩
    dsimp only [List.set]
    try with_reducible refine ss_seq ?_
    with_reducible refine ss_if ?_
    repeat bv_omega
    refine dEq_str (by decide +kernel) (by decide +kernel) ?_
    repeat bv_omega
    refine ⟨fun _ => ?_, fun z => ?_⟩
    · try with_reducible refine ss_seq ?_
      refine ss_item rfl ?_
      repeat bv_omega
      refine ⟨t.toNat, by rw [Int.toNat_of_nonneg t0], by rw [List.length_map]; omega, ?_⟩
      dsimp only [List.set]
      repeat bv_omega
      refine dEq_f (e := tI) (a := []) (b := []) fTI ?_
      repeat bv_omega
      refine ⟨fun _ => ?_, fun z => ?_⟩
      · repeat bv_omega
        show _ = _
        rw [List.length_map, set_map]
        rfl
      · simp at z
    · exact absurd z (by decide +kernel)
  | ask t ds =>
    obtain ⟨t0, t1, hg⟩ := hm
    have t1 : t < n := t1
    have hg : Good rooms t (st.set t.toNat 0) 0 ds := hg
    show SS M _ [.dat (hD (n, rooms)), .dat (tI st), .dat (.tuple [.str "ask", .int t, tI ds]), .no, .no, .no, .no, .no, .no, .no, .no] _ _
    try with_reducible refine ss_seq ?_
    refine ss_asg (is := [3, 4, 5]) ?_
    repeat bv_omega
    dsimp only [List.set]
    try with_reducible refine ss_seq ?_
    refine ss_par (by simp) (by simp) (by decide) ?_
    refine ws_dat ?_
    repeat bv_omega
    refine ws_own (wl_list ?_)
    repeat bv_omega
    refine ws_nil ⟨_, _, rfl, ?_⟩
    dsimp only [List.set]
    try with_reducible refine ss_seq ?_
    with_reducible refine ss_if ?_
    repeat bv_omega
    refine dEq_str (by decide +kernel) (by decide +kernel) ?_
    repeat bv_omega
    refine ⟨fun z => ?_, fun _ => ?_⟩
    · exact absurd z (by decide +kernel)
    repeat bv_omega
    refine ss_item rfl ?_
    repeat bv_omega
    refine ⟨t.toNat, by rw [Int.toNat_of_nonneg t0], by rw [List.length_map]; omega, ?_⟩
    dsimp only [List.set]
    rw [set_map]
    try with_reducible refine ss_seq ?_
    with_reducible refine ss_forL [8, 9] ?_
    repeat bv_omega
    refine forOkE (β := List Int) ds.zipIdx _ (enD_map0 ds .int) (fun now => [.dat (hD (n, rooms)), .dat (tI st), .dat (.tuple [.str "ask", .int t, tI ds]), .dat (.str "ask"), .dat (.int t), .dat (tI ds), .dat (.int ((rooms.map PyData.int).length : Nat)), .own (now.map .int), .no, .no, .no]) (fun i now => now.length = st.length ∧ Good rooms t now i (ds.drop i) ∧ runM now i (ds.drop i) = runM (st.set t.toNat 0) 0 ds) (st.set t.toNat 0) ⟨by rw [List.length_set], hg, rfl⟩ (Le.refl _) (fun i ⟨d, i'⟩ now hp Φ => ?_) fun now Φ => ?_
    · obtain ⟨hi, rfl⟩ := zi hp
      obtain ⟨p1, p2, p3⟩ := Φ
      have hil := (List.getElem?_eq_some_iff.mp hi).1
      have hdrop : ds.drop i' = d :: ds.drop (i' + 1) := by
        rw [List.drop_eq_getElem_cons hil, (List.getElem?_eq_some_iff.mp hi).2]
      rw [hdrop] at p2 p3
      obtain ⟨⟨s1, s2, s3, s4, s5⟩, p2⟩ := p2
      have hnd : atI (now.map PyData.int) d = some (.int (i' : Nat)) := by
        rw [(Int.toNat_of_nonneg s3).symm]
        exact atI_map s4
      dsimp only [prD]
      repeat bv_omega
      dsimp only [List.set]
      try with_reducible refine ss_seq ?_
      refine ss_if (wt_eq (R' := fun b => b = false) ?_ fun b hb => ⟨fun z => ?_, fun _ => ?_⟩)
      · repeat bv_omega
        refine ⟨fun z => ?_, fun _ => ?_⟩
        · have z := of_decide_eq_true z
          rw [List.length_map] at z
          omega
        repeat bv_omega
        refine dIx_tin s1 ?_
        repeat bv_omega
        refine ⟨fun z => ?_, fun _ => ?_⟩
        · have z : ((now.count (i' : Int) : Nat) : Int) ≤ rooms.getD i' 0 := of_decide_eq_true z
          omega
        repeat bv_omega
        refine ⟨_, _, rfl, hnd, ?_⟩
        repeat bv_omega
        refine ⟨fun z => ?_, fun _ => ?_⟩
        · simp at z
        repeat bv_omega
        refine ⟨fun z => ?_, fun _ => ?_⟩
        · have z := of_decide_eq_true z
          repeat bv_omega
          exact decide_eq_false fun e => s5 ⟨by omega, e⟩
        · repeat bv_omega
      · rw [hb] at z
        cases z
      · repeat bv_omega
        refine ss_item rfl ?_
        repeat bv_omega
        refine ⟨d.toNat, by rw [Int.toNat_of_nonneg s3], by rw [List.length_map]; exact (List.getElem?_eq_some_iff.mp s4).1, ?_⟩
        dsimp only [List.set]
        rw [set_map]
        refine ⟨now.set d.toNat ((i' : Int) + 1), ⟨by rw [List.length_set]; exact p1, p2, p3⟩, by symm_saturate⟩
    · obtain ⟨p1, p2, p3⟩ := Φ
      rw [List.length_zipIdx, List.drop_length] at p2 p3
      have p2 : rooms.length ≤ ds.length ∨ ((now.count (ds.length : Int) : Nat) : Int) ≤ rooms.getD ds.length 0 := p2
      have p3 : now = runM (st.set t.toNat 0) 0 ds := p3
      repeat bv_omega
      refine ss_set ?_
      repeat bv_omega
      dsimp only [List.set]
      repeat bv_omega
      rw [List.length_map, List.length_map]
      refine ⟨fun z => ?_, fun z => ?_⟩
      · refine ⟨fun _ => ?_, (fun z => nomatch z)⟩
        repeat bv_omega
        show _ = _
        rw [p3]
        rfl
      · have z : ¬ ((rooms.length : Nat) : Int) ≤ (ds.length : Nat) := of_decide_eq_false z
        have p2 := p2.resolve_left (by omega)
        repeat bv_omega
        refine dIx_tin (l := rooms) (by omega) ?_
        repeat bv_omega
        refine ⟨fun _ => ?_, fun z => ?_⟩
        · repeat bv_omega
          show _ = _
          rw [p3]
          rfl
        · have z := of_decide_eq_false z
          exact absurd p2 z
/-! _law_drawn_move -/
theorem ss_whileL {M : Mx} {δ : List SD} {N : List SD → Prop} {Kn0 : Kn} {c : TT} {tb : TS} (Pv : Nat → List SD → Prop) (n0 : Nat) (h0 : wk (Pv n0) δ)
    (hs : ∀ m δ', Pv m δ' → WT M c δ' (fun b => (b = true → SS M tb δ' (wk fun δ2 => ∃ m', m' < m ∧ Pv m' δ2) ⟨Kn0.rt, N, wk fun δ2 => ∃ m', m' < m ∧ Pv m' δ2⟩) ∧ (b = false → N δ'))) : SS M (tWhile c tb) δ N Kn0 := by
  refine ss_wk (ss_while (fun m => wk (Pv m)) n0 h0 fun m δ' hp => ?_)
  obtain ⟨δ1, l, p⟩ := hp
  intro G H σ s Q q
  refine hs m δ1 p G H σ (s.le l) Q fun b G' H' r st ok => q b G' H' ⟨fun z => ?_, fun z => ⟨δ1, l, r.2 z⟩⟩ st ok
  refine ss_le l (ss_K (r.1 z) (fun δ2 ⟨δ3, l3, m', lt, p3⟩ => ⟨m', lt, δ3, l3, p3⟩) (fun _ n => n) (fun δ2 n => ⟨δ2, Le.refl _, n⟩) fun δ2 ⟨δ3, l3, m', lt, p3⟩ => ⟨m', lt, δ3, l3, p3⟩)
structure Stage (h : House) (i : Nat) (now : List Int) : Prop where
  len : (now.length : Int) = h.1
  rng : ∀ p ∈ now, 0 ≤ p ∧ p ≤ h.2.length
  lo : ∀ (f : Nat) (r : Int), h.2[f]? = some r → f ≠ i → ((now.count (f : Int) : Nat) : Int) ≤ r
  at_ : ∀ (r : Int), h.2[i]? = some r → ((now.count (i : Int) : Nat) : Int) ≤ r + 1
theorem Stage.step {h : House} {i : Nat} {now : List Int} {t d : Int} (s : Stage h i now) (e : Step h.2 t now i d) : Stage h (i + 1) (now.set d.toNat ((i : Int) + 1)) := by
  obtain ⟨e1, e2, e3, e4, _⟩ := e
  have hc := fun f : Int => count_set (f := f) (y := (i : Int) + 1) e4
  obtain ⟨r, hr⟩ : ∃ r, h.2[i]? = some r := ⟨_, List.getElem?_eq_getElem e1⟩
  have hri : h.2.getD i 0 = r := by rw [List.getD_eq_getElem?_getD, hr]; rfl
  refine ⟨by rw [List.length_set]; exact s.len, fun p hp => ?_, fun f r' hf hne => ?_, fun r' hf => ?_⟩
  · rcases List.mem_or_eq_of_mem_set hp with z | z
    · exact s.rng p z
    · subst z; omega
  · rw [hc]
    by_cases hfi : f = i
    · subst hfi
      rw [hr] at hf
      cases hf
      have := s.at_ r hr
      rw [if_pos rfl, if_neg (by omega)]
      omega
    · have := s.lo f r' hf hfi
      rw [if_neg (by omega), if_neg (by omega)]
      omega
  · rw [hc]
    have := s.lo (i + 1) r' hf (by omega)
    rw [if_neg (by omega), if_pos (by omega)]
    omega
theorem Stage.first {h : House} {st : List Int} {t : Int} (hs : StOk h st) (h0 : 0 ≤ t) (h1 : t < h.1) : Stage h 0 (st.set t.toNat 0) := by
  have hl := hs.len
  obtain ⟨x, hx⟩ : ∃ x, st[t.toNat]? = some x := ⟨_, List.getElem?_eq_getElem (by omega)⟩
  have hc := fun f : Int => count_set (f := f) (y := 0) hx
  refine ⟨by rw [List.length_set]; exact hl, fun p hp => ?_, fun f r' hf hne => ?_, fun r' hf => ?_⟩
  · rcases List.mem_or_eq_of_mem_set hp with z | z
    · exact hs.rng p z
    · subst z; omega
  · rw [hc]
    have := hs.rooms f r' hf
    rw [if_neg (show ¬ (0 : Int) = (f : Int) by omega)]
    split <;> omega
  · rw [hc]
    have := hs.rooms 0 r' hf
    split <;> split <;> omega
theorem Stage.stop {h : House} {i : Nat} {now : List Int} (s : Stage h i now) (e : EndM h.2 now i) : StOk h now := by
  refine ⟨s.len, s.rng, fun f r hf => ?_⟩
  by_cases hfi : f = i
  · subst hfi
    rcases e with e | e
    · have := (List.getElem?_eq_some_iff.mp hf).1
      omega
    · have hri : h.2.getD f 0 = r := by rw [List.getD_eq_getElem?_getD, hf]; rfl
      rw [hri] at e
      exact e
  · exact s.lo f r hf hfi
/-- more than one of them: one that is not t -/
theorem other_one {now : List Int} {v : Int} {t : Nat} (h : 2 ≤ now.count v) : ∃ j, now[j]? = some v ∧ j ≠ t := by
  by_cases hx : now[t]? = some v
  · have hc := count_set (f := v) (y := v + 1) hx
    rw [if_pos rfl, if_neg (by omega)] at hc
    have hpos : 0 < (now.set t (v + 1)).count v := by omega
    obtain ⟨j, hj⟩ := List.getElem?_of_mem (List.count_pos_iff.mp hpos)
    refine ⟨j, ?_, ?_⟩
    · by_cases e : t = j
      · subst e
        rw [List.getElem?_set_self (List.getElem?_eq_some_iff.mp hx).1] at hj
        have := Option.some.inj hj
        omega
      · rw [List.getElem?_set_ne e] at hj
        exact hj
    · intro e
      subst e
      rw [List.getElem?_set_self (List.getElem?_eq_some_iff.mp hx).1] at hj
      have := Option.some.inj hj
      omega
  · obtain ⟨j, hj⟩ := List.getElem?_of_mem (List.count_pos_iff.mp (show 0 < now.count v by omega))
    exact ⟨j, hj, fun e => hx (e ▸ hj)⟩
abbrev C_law_drawn_move : Ct := ⟨House × List Int × Int × Int, fun a => [hD a.1, tI a.2.1, .int a.2.2.1, .int a.2.2.2], fun a => HOk a.1 ∧ StOk a.1 a.2.1 ∧ 0 ≤ a.2.2.1 ∧ a.2.2.1 < a.1.1,
  fun a d => ∃ ds, d = mvD (.ask a.2.2.1 ds) ∧ mvOk a.1 a.2.1 (.ask a.2.2.1 ds) ∧ StOk a.1 (mvRes a.1 a.2.1 (.ask a.2.2.1 ds))⟩
theorem d_law_drawn_move : DOkB T (t__law_drawn_move K (spB T C_law_one)) C_law_drawn_move n__law_drawn_move 5 := by
  rintro ⟨⟨n, rooms⟩, st, t, way⟩ ⟨hh, hs, h0, h1⟩ M hT
  have n1 : n ≤ 16 := hh.n1
  have m1 : rooms.length ≤ 4 := hh.m1
  have hs : StOk (n, rooms) st := hs
  have hl : (st.length : Int) = n := hs.len
  have h0 : 0 ≤ t := h0
  have h1 : t < n := h1
  have hr0 : ∀ r ∈ rooms, 1 ≤ r ∧ r ≤ 12 := hh.r0
  show SS M (t__law_drawn_move K _) [.bag, .dat (hD (n, rooms)), .dat (tI st), .dat (.int t), .dat (.int way), .no, .no, .no, .no, .no, .no] _ _
  unfold t__law_drawn_move
  try with_reducible refine ss_seq ?_
  refine ss_tup (n := 2) (is := [5, 6]) rfl ?_ ?_ ?_
  · simp [sizeLine_eq]
  · simp
  refine ws_dat ?_
  repeat bv_omega
  refine ws_own (wl_list ?_)
  repeat bv_omega
  refine ws_nil ⟨rfl, ?_⟩
  dsimp only [setAll, List.set]
  try with_reducible refine ss_seq ?_
  refine ss_item rfl ?_
  repeat bv_omega
  refine ⟨t.toNat, by rw [Int.toNat_of_nonneg h0], by rw [List.length_map]; omega, ?_⟩
  dsimp only [List.set]
  rw [set_map]
  try with_reducible refine ss_seq ?_
  let S : List Int → List Int → List SD := fun ds now => [.bag, .dat (hD (n, rooms)), .dat (tI st), .dat (.int t), .dat (.int way), .dat (tI ds), .own (now.map .int), .no, .no, .no, .no]
  refine ss_whileL (fun m δ' => ∃ ds now, m = rooms.length - ds.length ∧ ds.length ≤ rooms.length ∧ Pre rooms t (st.set t.toNat 0) ds now ∧ Stage (n, rooms) ds.length now ∧ (∀ d, ds.getLast? = some d → 0 ≤ d ∧ now[d.toNat]? = some (ds.length : Int)) ∧ δ' = S ds now) (rooms.length - 0) ⟨_, Le.refl _, [], _, rfl, Nat.zero_le _, .nil, Stage.first hs h0 h1, (fun d hd => by cases hd), rfl⟩ ?_
  rintro m δ' ⟨ds, now, rfl, hdl, hpre, hst, hlast, rfl⟩
  have hnl : (now.length : Int) = n := hst.len
  dsimp only [S]
  refine wt_eq (R' := fun b => (b = true → ds.length < rooms.length ∧ rooms.getD ds.length 0 < (now.count (ds.length : Int) : Nat)) ∧ (b = false → EndM rooms now ds.length)) ?_ fun b hb => ⟨fun z => ?_, fun z => ?_⟩
  · repeat bv_omega
    rw [List.length_map, List.length_map]
    refine ⟨fun c => ?_, fun c => ?_⟩
    · have c : ((ds.length : Nat) : Int) < (rooms.length : Nat) := of_decide_eq_true c
      repeat bv_omega
      rw [List.length_map]
      refine dIx_tin (l := rooms) (by omega) ?_
      repeat bv_omega
      refine ⟨fun c2 => ?_, fun c2 => ?_⟩
      · have c2 : rooms.getD ds.length 0 < (now.count (ds.length : Int) : Nat) := of_decide_eq_true c2
        exact ⟨by omega, c2⟩
      · have c2 : ¬ rooms.getD ds.length 0 < (now.count (ds.length : Int) : Nat) := of_decide_eq_false c2
        exact .inr (by omega)
    · have c : ¬ ((ds.length : Nat) : Int) < (rooms.length : Nat) := of_decide_eq_false c
      exact ⟨(fun z => nomatch z), fun _ => .inl (by omega)⟩
  · obtain ⟨c1, c2⟩ := hb.1 z
    have hr1 := hr0 (rooms.getD ds.length 0) (List.mem_of_getElem? (getD_some c1))
    try with_reducible refine ss_seq ?_
    refine ss_set ?_
    repeat bv_omega
    dsimp only [List.set]
    rw [List.length_map]
    try with_reducible refine ss_seq ?_
    refine ss_set (we_of_wl (wl_lcL ?_))
    repeat bv_omega
    refine ⟨by omega, ?_⟩
    refine lcOk (List.range n.toNat) _ (rgD_map0 n.toNat) (fun (j : Nat) => decide (now[j]? = some (ds.length : Int) ∧ ¬ (ds.length = 0 ∧ (j : Int) = t))) (fun j => .int (j : Nat)) (sm_lt (by simp; omega)) (fun i j hj => ?_) ?_
    · have hjn := List.mem_range.mp (List.mem_of_getElem? hj)
      obtain ⟨v, hv⟩ : ∃ v, now[j]? = some v := ⟨_, List.getElem?_eq_getElem (by omega)⟩
      dsimp only [wipeD, List.set]
      repeat bv_omega
      refine ⟨_, _, rfl, atI_map hv, ?_⟩
      repeat bv_omega
      rw [hv]
      refine ⟨fun c => ?_, fun c => ?_⟩
      · have c : v = (ds.length : Nat) := of_decide_eq_true c
        repeat bv_omega
        refine ⟨fun c3 => ?_, fun c3 => ?_⟩
        · have c3 : 0 < ((ds.length : Nat) : Int) := of_decide_eq_true c3
          refine ⟨?_, fun _ => ?_⟩
          · refine (decide_eq_true ⟨by rw [c], fun z => ?_⟩).symm
            omega
          · repeat bv_omega
        · have c3 : ¬ 0 < ((ds.length : Nat) : Int) := of_decide_eq_false c3
          repeat bv_omega
          refine ⟨?_, fun _ => ?_⟩
          · have e0 : ds.length = 0 := by omega
            rw [c]
            simp [e0]
          · repeat bv_omega
      · have c : ¬ v = (ds.length : Nat) := of_decide_eq_false c
        refine ⟨?_, fun z => ?_⟩
        · refine (decide_eq_false fun z => ?_).symm
          exact c (Option.some.inj z.1)
        · have z := of_decide_eq_true z
          exact absurd (Option.some.inj z.1) c
    generalize hth : ((List.range n.toNat).filter fun (j : Nat) => decide (now[j]? = some (ds.length : Int) ∧ ¬ (ds.length = 0 ∧ (j : Int) = t))) = th
    have hth1 : ∀ j ∈ th, now[j]? = some (ds.length : Int) ∧ ¬ (ds.length = 0 ∧ (j : Int) = t) := fun j hj => by
      rw [← hth] at hj
      exact of_decide_eq_true (List.mem_filter.mp hj).2
    have hthl : th.length ≤ 16 := by
      rw [← hth]
      have := List.length_filter_le (fun (j : Nat) => decide (now[j]? = some (ds.length : Int) ∧ ¬ (ds.length = 0 ∧ (j : Int) = t))) (List.range n.toNat)
      rw [List.length_range] at this
      omega
    have hthn : th ≠ [] := by
      obtain ⟨j, hj, hjt⟩ : ∃ j : Nat, now[j]? = some (ds.length : Int) ∧ ¬ (ds.length = 0 ∧ (j : Int) = t) := by
        by_cases e0 : ds.length = 0
        · obtain ⟨j, hj, hne⟩ := other_one (t := t.toNat) (show 2 ≤ now.count (ds.length : Int) by omega)
          exact ⟨j, hj, fun z => hne (by omega)⟩
        · obtain ⟨j, hj⟩ := List.getElem?_of_mem (List.count_pos_iff.mp (show 0 < now.count (ds.length : Int) by omega))
          exact ⟨j, hj, fun z => e0 z.1⟩
      have : j ∈ th := by
        rw [← hth]
        refine List.mem_filter.mpr ⟨List.mem_range.mpr ?_, decide_eq_true ⟨hj, hjt⟩⟩
        have := (List.getElem?_eq_some_iff.mp hj).1
        omega
      exact List.ne_nil_of_mem this
    have pick : ∀ d, d ∈ th.map (fun j => PyData.int (j : Nat)) → ∃ x : Int, d = .int x ∧ Step rooms t now ds.length x := fun d hd => by
      obtain ⟨j, hj, rfl⟩ := List.mem_map.mp hd
      obtain ⟨q1, q2⟩ := hth1 j hj
      exact ⟨j, rfl, c1, c2, Int.natCast_nonneg _, by rw [Int.toNat_natCast]; exact q1, q2⟩
    dsimp only [List.set]
    try with_reducible refine ss_seq ?_
    refine ss_set (we_imp (R' := fun d => ∃ x : Int, d = .int x ∧ Step rooms t now ds.length x) ?_ ?_)
    · repeat bv_omega
      refine ⟨fun c => ?_, fun c => ?_⟩
      · repeat bv_omega
        obtain ⟨j, hj⟩ : ∃ j, th.getLast? = some j := by
          cases e : th.getLast? with
          | none => exact absurd (List.getLast?_eq_none_iff.mp e) hthn
          | some j => exact ⟨j, rfl⟩
        refine dIx_list (d := .int (j : Nat)) (atI_last (by rw [List.getLast?_map, hj]; rfl)) ?_
        exact pick _ (List.mem_map_of_mem (List.mem_of_getLast? hj))
      · refine we_if (wt_eq (R' := fun b => b = true → 0 < ds.length) ?_ fun b hb => ⟨fun z => ?_, fun _ => ?_⟩)
        · repeat bv_omega
          refine ⟨fun c => ?_, fun c => ?_⟩
          · repeat bv_omega
            intro z
            have z : 0 < ((ds.length : Nat) : Int) := of_decide_eq_true z
            omega
          · exact fun z => nomatch z
        · have hpos := hb z
          obtain ⟨j, hj⟩ : ∃ j, ds.getLast? = some j := by
            cases e : ds.getLast? with
            | none => rw [List.getLast?_eq_none_iff.mp e] at hpos; cases hpos
            | some j => exact ⟨j, rfl⟩
          obtain ⟨q1, q2⟩ := hlast j hj
          repeat bv_omega
          refine dIx_tup (d := .int j) (atI_last (by rw [List.getLast?_map, hj]; rfl)) ?_
          exact ⟨j, rfl, c1, c2, q1, q2, fun z => by omega⟩
        · repeat bv_omega
          refine callOk (th.map fun j => PyData.int (j : Nat)) rfl ⟨by simpa using hthn, by rw [List.length_map]; omega⟩ ?_
          exact pick
    rintro d ⟨x, rfl, hx⟩
    dsimp only [List.set]
    refine ss_asgH ?_
    repeat bv_omega
    refine dAdd_tup (ys := [.int x]) (by rw [sizeLine_eq]; simp; omega) ?_
    repeat bv_omega
    refine wh_tup rfl (whs_cons (wh_name ?_))
    dsimp only [List.set]
    refine whs_cons (wh_sub rfl ?_)
    repeat bv_omega
    refine ⟨x.toNat, by rw [Int.toNat_of_nonneg hx.2.2.1], by rw [List.length_map]; exact (List.getElem?_eq_some_iff.mp hx.2.2.2.1).1, ?_⟩
    dsimp only [List.set]
    rw [set_map]
    refine whs_nil ?_
    refine ⟨S (ds ++ [x]) (now.set x.toNat ((ds.length : Int) + 1)), ?_, rooms.length - (ds.length + 1), by omega, ds ++ [x], _, ?_, ?_, hpre.snoc hx, ?_, ?_, rfl⟩
    · dsimp only [S]
      have e : tI (ds ++ [x]) = .tuple (ds.map PyData.int ++ [.int x]) := by simp
      rw [e]
      symm_saturate
    · simp
    · simp; omega
    · rw [List.length_append, List.length_singleton]
      exact hst.step hx
    · intro d hd
      rw [List.getLast?_append] at hd
      simp at hd
      subst hd
      refine ⟨hx.2.2.1, ?_⟩
      rw [List.getElem?_set_self (List.getElem?_eq_some_iff.mp hx.2.2.2.1).1]
      simp
  · have hend := hb.2 z
    repeat bv_omega
    obtain ⟨g1, g2⟩ := hpre.good []
    rw [List.append_nil] at g1 g2
    have g2 : now = runM (st.set t.toNat 0) 0 ds := g2
    refine ⟨⟨h0, h1, g1 hend⟩, ?_⟩
    show StOk (n, rooms) (runM (st.set t.toNat 0) 0 ds)
    rw [← g2]
    exact hst.stop hend

end
section
/-! FkF5: runs. -/
variable {T : Addr × Str} {K : PySem.W.Frag}
abbrev LogE := Bool × Int × Int
abbrev wordS (b : Bool) : Str := if b then "strike" else "ask"
abbrev logD (e : LogE) : D := .tuple [.str (wordS e.1), .int e.2.1, .int e.2.2]
def LogOk (h : House) (e : LogE) : Prop := 0 ≤ e.2.1 ∧ e.2.1 < h.1 ∧ 0 ≤ e.2.2 ∧ e.2.2 ≤ h.2.length
theorem strike_ok {h : House} {st : List Int} {t : Int} (hs : StOk h st) (h0 : 0 ≤ t) (h1 : t < h.1) : StOk h (st.set t.toNat (h.2.length : Int)) := by
  have hl := hs.len
  obtain ⟨x, hx⟩ : ∃ x, st[t.toNat]? = some x := ⟨_, List.getElem?_eq_getElem (by omega)⟩
  have hc := fun f : Int => count_set (f := f) (y := (h.2.length : Int)) hx
  refine ⟨by rw [List.length_set]; exact hl, fun p hp => ?_, fun f r hf => ?_⟩
  · rcases List.mem_or_eq_of_mem_set hp with z | z
    · exact hs.rng p z
    · subst z; omega
  · have hfl := (List.getElem?_eq_some_iff.mp hf).1
    have := hs.rooms f r hf
    rw [hc, if_neg (show ¬ (h.2.length : Int) = (f : Int) by omega)]
    split <;> omega
abbrev mvB : Mv → Bool
  | .strike _ => true
  | .ask _ _ => false
abbrev mvT : Mv → Int
  | .strike t => t
  | .ask t _ => t
theorem dIx_mv {mv : Mv} {R : D → Prop} (r : R (.str (wordS (mvB mv)))) : dIx (mvD mv) (.int 0) R := by
  cases mv with
  | strike t => exact dIx_tup (d := .str "strike") rfl r
  | ask t ds => exact dIx_tup (d := .str "ask") rfl r
abbrev C_law_run : Ct := ⟨House × List Int × Int × Int, fun a => [hD a.1, tI a.2.1, .int a.2.2.1, .int a.2.2.2], fun a => HOk a.1 ∧ StOk a.1 a.2.1 ∧ 0 ≤ a.2.2.1 ∧ a.2.2.1 ≤ 1000 ∧ 0 ≤ a.2.2.2 ∧ a.2.2.2 ≤ 1000,
  fun a d => ∃ (x : D) (logs : List LogE) (y : D), d = .tuple [x, .tuple (logs.map logD), y] ∧ (∀ e ∈ logs, LogOk a.1 e) ∧ logs.length ≤ 1000⟩
theorem d_law_run : DOkB T (t__law_run K (spP C_law_done) (spB T C_law_take) (spB T C_law_drawn_move) (spB T C_law_one) (spB T C_law_mixed)) C_law_run n__law_run 5 := by
  rintro ⟨⟨n, rooms⟩, st, many, strikes⟩ ⟨hh, hs, h0, h1, h2, h3⟩ M hT
  have n0 : 0 ≤ n := hh.n0
  have n1 : n ≤ 16 := hh.n1
  have m1 : rooms.length ≤ 4 := hh.m1
  have hh : HOk (n, rooms) := hh
  have hs : StOk (n, rooms) st := hs
  have hl : (st.length : Int) = n := hs.len
  have h0 : 0 ≤ many := h0
  have h1 : many ≤ 1000 := h1
  have h2 : 0 ≤ strikes := h2
  have h3 : strikes ≤ 1000 := h3
  show SS M (t__law_run K _ _ _ _ _) [.bag, .dat (hD (n, rooms)), .dat (tI st), .dat (.int many), .dat (.int strikes), .no, .no, .no, .no, .no, .no, .no, .no] _ _
  unfold t__law_run
  try with_reducible refine ss_seq ?_
  refine ss_tup (n := 4) (is := [5, 6, 7, 8]) rfl ?_ ?_ ?_
  · simp [sizeLine_eq]
  · simp
  refine ws_own (wl_lst ?_)
  repeat bv_omega
  refine ws_own (wl_lst ?_)
  repeat bv_omega
  refine ws_own (wl_lst ?_)
  repeat bv_omega
  refine ws_dat ?_
  repeat bv_omega
  refine callOk [.int 0, .int 0, .int 1, .int 2] rfl ⟨by simp, by simp⟩ ?_
  intro d hd
  obtain ⟨way, rfl⟩ : ∃ way : Int, d = .int way := by
    simp only [List.mem_cons, List.mem_nil_iff, or_false] at hd
    rcases hd with rfl | rfl | rfl | rfl <;> exact ⟨_, rfl⟩
  refine ws_nil ⟨rfl, ?_⟩
  dsimp only [setAll, List.set]
  try with_reducible refine ss_seq ?_
  refine ss_set ?_
  repeat bv_omega
  refine we_of_wl (wl_listRg ?_)
  repeat bv_omega
  refine ⟨by show 0 ≤ n ∧ n ≤ _; omega, ?_⟩
  repeat bv_omega
  refine callOk (rgD 0 n.toNat) rfl (by show (rgD 0 n.toNat).length ≤ 100000; rw [rgD_len]; omega) ?_
  rintro d ⟨ys, rfl, hys⟩
  rw [rgD_ints] at hys
  obtain ⟨ts, rfl, hts⟩ := perm_ints hys
  have hrng : ∀ t ∈ ts, 0 ≤ t ∧ t < n := fun t ht => by
    obtain ⟨i, hi, rfl⟩ := List.mem_map.mp (hts.subset ht)
    have := List.mem_range.mp hi
    omega
  have htsl : ts.length = n.toNat := by rw [hts.length_eq]; simp
  repeat bv_omega
  refine callOk (max 1 n) rfl ⟨by show 0 < max 1 n; omega, by show max 1 n < _; omega⟩ ?_
  rintro d ⟨v, rfl, v0, v1⟩
  repeat bv_omega
  have ev : (1 : Int) + v = ((1 + v.toNat : Nat) : Int) := by omega
  rw [ev, cutIu]
  generalize hfav : ts.take (1 + v.toNat) = fav
  have hfav1 : ∀ t ∈ fav, 0 ≤ t ∧ t < n := fun t ht => hrng t (by rw [← hfav] at ht; exact List.mem_of_mem_take ht)
  have hfav2 : 0 < n → fav ≠ [] := fun hn e => by
    have : fav.length = 0 := by rw [e]; rfl
    rw [← hfav, List.length_take] at this
    omega
  have hfavl : fav.length ≤ 16 := by rw [← hfav, List.length_take]; omega
  dsimp only [List.set]
  try with_reducible refine ss_seq ?_
  with_reducible refine ss_forL [10] ?_
  refine WI_imp (R' := fun xs => ∃ k : Nat, xs = rgD 0 k ∧ k ≤ 1000 ∧ (0 < k → 0 < n)) ?_ ?_
  · repeat bv_omega
    refine ⟨fun c => ?_, fun c => ?_⟩
    · have c : 0 < n := of_decide_eq_true c
      repeat bv_omega
      refine ⟨by omega, many.toNat, rfl, by omega, fun _ => c⟩
    · repeat bv_omega
      refine ⟨by omega, 0, rfl, by omega, fun z => absurd z (Nat.lt_irrefl _)⟩
  rintro xs ⟨k, rfl, hk, hkn⟩
  let S : List D × List LogE × List (List Int) → List SD := fun y => [.bag, .dat (hD (n, rooms)), .dat (tI st), .dat (.int many), .dat (.int strikes), .own y.1, .own (y.2.1.map logD), .own (y.2.2.map tI), .dat (.int way), .dat (lI fav), .no, .no, .no]
  refine forOkE (β := List D × List LogE × List (List Int)) (List.range k) _ (rgD_map0 k) S (fun i y => y.1.length ≤ i ∧ y.2.1.length ≤ i ∧ y.2.2.length ≤ i + 1 ∧ (∀ e ∈ y.2.1, LogOk (n, rooms) e) ∧ ∃ s, y.2.2.getLast? = some s ∧ StOk (n, rooms) s) ([], [], [st]) ⟨by simp, by simp, by simp, by simp, st, rfl, hs⟩ (Le.refl _) (fun i d y hi Φ => ?_) fun y Φ => ?_
  · obtain ⟨runs, logs, sts⟩ := y
    obtain ⟨p1, p2, p3, p4, s, p5, p6⟩ := Φ
    have p1 : runs.length ≤ i := p1
    have p2 : logs.length ≤ i := p2
    have p3 : sts.length ≤ i + 1 := p3
    have p5 : sts.getLast? = some s := p5
    have hik : i < k := by have := (List.getElem?_eq_some_iff.mp hi).1; simpa using this
    have hn := hkn (by omega)
    have hsl : (s.length : Int) = n := p6.len
    have hlast : atI (sts.map tI) (-1) = some (tI s) := atI_last (by rw [List.getLast?_map, p5]; rfl)
    dsimp only [S]
    bv_omega
    dsimp only [List.set]
    try with_reducible refine ss_seq ?_
    refine ss_set (we_imp (R' := fun d => ∃ t : Int, d = .int t ∧ 0 ≤ t ∧ t < n) ?_ ?_)
    · repeat bv_omega
      refine callOk (3 : Int) rfl (by decide) ?_
      rintro d ⟨v, rfl, v0, v1⟩
      repeat bv_omega
      refine ⟨fun c => ?_, fun c => ?_⟩
      · repeat bv_omega
        refine callOk (fav.map .int) rfl ⟨by simpa using hfav2 hn, by rw [List.length_map]; omega⟩ ?_
        intro d hd
        obtain ⟨t, ht, rfl⟩ := List.mem_map.mp hd
        exact ⟨t, rfl, hfav1 t ht⟩
      · repeat bv_omega
        refine callOk n rfl ⟨hn, by show n < _; omega⟩ ?_
        rintro d ⟨v, rfl, v0, v1⟩
        exact ⟨v, rfl, v0, v1⟩
    rintro d ⟨t, rfl, t0, t1⟩
    dsimp only [List.set]
    try with_reducible refine ss_seq ?_
    refine ss_set ?_
    repeat bv_omega
    dsimp only [List.set]
    try with_reducible refine ss_seq ?_
    refine ss_imp (N' := fun δ' => ∃ mv : Mv, mvT mv = t ∧ mvOk (n, rooms) s mv ∧ StOk (n, rooms) (mvRes (n, rooms) s mv) ∧ δ' = [.bag, .dat (hD (n, rooms)), .dat (tI st), .dat (.int many), .dat (.int strikes), .own runs, .own (logs.map logD), .own (sts.map tI), .dat (.int way), .dat (lI fav), .dat (.int (d : Nat)), .dat (.int t), .dat (mvD mv)]) ?_ ?_
    · have hstrike : ∃ mv : Mv, mvT mv = t ∧ mvOk (n, rooms) s mv ∧ StOk (n, rooms) (mvRes (n, rooms) s mv) ∧ ([.bag, .dat (hD (n, rooms)), .dat (tI st), .dat (.int many), .dat (.int strikes), .own runs, .own (logs.map logD), .own (sts.map tI), .dat (.int way), .dat (lI fav), .dat (.int (d : Nat)), .dat (.int t), .dat (.tuple [.str "strike", .int t, .tuple []])] : List SD) = [.bag, .dat (hD (n, rooms)), .dat (tI st), .dat (.int many), .dat (.int strikes), .own runs, .own (logs.map logD), .own (sts.map tI), .dat (.int way), .dat (lI fav), .dat (.int (d : Nat)), .dat (.int t), .dat (mvD mv)] :=
        ⟨.strike t, rfl, ⟨t0, t1⟩, strike_ok p6 t0 t1, rfl⟩
      refine ss_if (wt_eq (R' := fun _ => True) ?_ fun b _ => ⟨fun z => ?_, fun _ => ?_⟩)
      · repeat bv_omega
        refine ⟨fun _ => trivial, fun c => ?_⟩
        have c : ¬ strikes = 0 := of_decide_eq_false c
        repeat bv_omega
        refine callOk strikes rfl ⟨by show 0 < strikes; omega, by show strikes < _; omega⟩ ?_
        rintro d ⟨v, rfl, v0, v1⟩
        repeat bv_omega
        try trivial
      · refine ss_set ?_
        repeat bv_omega
        refine ⟨_, _, rfl, hlast, ?_⟩
        repeat bv_omega
        refine callOk ((n, rooms), s, t, way) rfl ⟨hh, p6, t0, t1⟩ ?_
        rintro d ⟨ds, rfl, q1, q2⟩
        exact ⟨.ask t ds, rfl, q1, q2, rfl⟩
      · repeat bv_omega
        try exact hstrike
    rintro δ' ⟨mv, rfl, q1, q2, rfl⟩
    obtain ⟨x, hx⟩ : ∃ x, s[(mvT mv).toNat]? = some x := ⟨_, List.getElem?_eq_getElem (by omega)⟩
    have hxr := p6.rng x (List.mem_of_getElem? hx)
    try with_reducible refine ss_seq ?_
    refine ss_append rfl ?_
    repeat bv_omega
    refine ⟨sm_lt (by omega), ?_⟩
    dsimp only [List.set]
    try with_reducible refine ss_seq ?_
    refine ss_append rfl ?_
    repeat bv_omega
    refine dIx_mv ?_
    repeat bv_omega
    refine ⟨_, _, rfl, hlast, ?_⟩
    repeat bv_omega
    refine dIx_tup (d := .int x) (by rw [(Int.toNat_of_nonneg t0).symm]; exact atI_map hx) ?_
    repeat bv_omega
    refine ⟨sm_lt (by rw [List.length_map]; omega), ?_⟩
    dsimp only [List.set]
    refine ss_append rfl ?_
    repeat bv_omega
    refine ⟨_, _, rfl, hlast, ?_⟩
    repeat bv_omega
    refine callOk ((n, rooms), s, mv) rfl ⟨hh, hsl, q1⟩ ?_
    rintro d' rfl
    refine ⟨sm_lt (by rw [List.length_map]; omega), ?_⟩
    dsimp only [List.set]
    refine ⟨(runs ++ [mvD mv], logs ++ [(mvB mv, mvT mv, x)], sts ++ [mvRes (n, rooms) s mv]), ⟨by simp; omega, by simp; omega, by simp; omega, ?_, _, by simp, q2⟩, ?_⟩
    · intro e he
      rcases List.mem_append.mp he with z | z
      · exact p4 e z
      · simp at z
        subst z
        exact ⟨t0, t1, hxr⟩
    · dsimp only [S]
      rw [List.map_append, List.map_append]
      symm_saturate
  · obtain ⟨runs, logs, sts⟩ := y
    obtain ⟨p1, p2, p3, p4, s, p5, p6⟩ := Φ
    rw [List.length_range] at p2
    have p2 : logs.length ≤ k := p2
    refine ss_frz (i := 7) rfl ?_
    dsimp only [List.set]
    repeat bv_omega
    exact ⟨_, logs, _, rfl, p4, by omega⟩
abbrev C_law_story : Ct := ⟨House × D × Int × Int, fun a => [hD a.1, a.2.1, .int a.2.2.1, .int a.2.2.2], fun a => HOk a.1 ∧ StartOk a.1 a.2.1 ∧ 0 ≤ a.2.2.1 ∧ a.2.2.1 ≤ 1000 ∧ 0 ≤ a.2.2.2 ∧ a.2.2.2 ≤ 1000,
  fun a d => ∃ (x : D) (logs : List LogE) (y : D), d = .tuple [x, .tuple (logs.map logD), y] ∧ (∀ e ∈ logs, LogOk a.1 e) ∧ logs.length ≤ 1000⟩
theorem d_law_story : DOkB T (t__law_story K (spB T C_law_full_state) (spB T C_law_run)) C_law_story n__law_story 5 := by
  rintro ⟨⟨n, rooms⟩, start, many, strikes⟩ ⟨hh, hs, h0, h1, h2, h3⟩ M hT
  have hh : HOk (n, rooms) := hh
  show SS M (t__law_story K _ _) [.bag, .dat (hD (n, rooms)), .dat start, .dat (.int many), .dat (.int strikes)] _ _
  unfold t__law_story
  have fin : ∀ st, StOk (n, rooms) st → WA M (tCons (tVar 3) (tCons (tVar 4) tNil)) [.bag, .dat (hD (n, rooms)), .dat start, .dat (.int many), .dat (.int strikes)] (fun ds => CallOk C_law_run (C_law_story.post ((n, rooms), start, many, strikes)) (hD (n, rooms) :: tI st :: ds)) := fun st hst => by
    repeat bv_omega
    exact callOk ((n, rooms), st, many, strikes) rfl ⟨hh, hst, h0, h1, h2, h3⟩ fun d h => h
  rcases hs with ⟨e, hsum⟩ | ⟨st, e, hst⟩
  · have e : start = .none := e
    subst e
    repeat bv_omega
    refine ⟨rfl, true, rfl, fun _ => ?_, (fun z => nomatch z)⟩
    repeat bv_omega
    refine callOk (n, rooms) rfl ⟨hh, hsum⟩ ?_
    rintro d ⟨st, rfl, hst⟩
    exact fin st hst
  · have e : start = tI st := e
    subst e
    repeat bv_omega
    refine ⟨rfl, false, rfl, (fun z => nomatch z), fun _ => ?_⟩
    repeat bv_omega
    exact callOk ((n, rooms), st, many, strikes) rfl ⟨hh, hst, h0, h1, h2, h3⟩ fun d h => h

end
section
/-! FkG1: tightened words. -/
abbrev gd (w : List Int) (i : Nat) : Int := w.getD i 0
theorem gd_set {w : List Int} {i j : Nat} {x : Int} (hi : i < w.length) : gd (w.set i x) j = if i = j then x else gd w j := by
  unfold gd
  by_cases e : i = j
  · subst e
    rw [if_pos rfl, List.getD_eq_getElem?_getD, List.getElem?_set_self hi]
    rfl
  · rw [if_neg e, List.getD_eq_getElem?_getD, List.getElem?_set_ne e, List.getD_eq_getElem?_getD]
theorem gd_app {w : List Int} {x : Int} {j : Nat} : gd (w ++ [x]) j = if j = w.length then x else gd w j := by
  unfold gd
  rw [List.getD_eq_getElem?_getD, List.getD_eq_getElem?_getD]
  by_cases h : j < w.length
  · rw [List.getElem?_append_left h, if_neg (by omega)]
  · by_cases e : j = w.length
    · subst e
      rw [List.getElem?_append_right (Nat.le_refl _), Nat.sub_self, if_pos rfl]
      rfl
    · rw [if_neg e, List.getElem?_eq_none (by simp; omega), List.getElem?_eq_none (by omega)]
theorem gd_zip {w v : List Int} {f : Int → Int → Int} {i : Nat} (h1 : i < w.length) (h2 : i < v.length) : gd ((w.zip v).map fun p => f p.1 p.2) i = f (gd w i) (gd v i) := by
  unfold gd
  have h : (w.zip v)[i]? = some (w.getD i 0, v.getD i 0) := List.getElem?_zip_eq_some.mpr ⟨getD_some h1, getD_some h2⟩
  rw [List.getD_eq_getElem?_getD, List.getElem?_map, h]
  rfl
theorem gd_some {w : List Int} {i : Nat} {x : Int} (h : w[i]? = some x) : gd w i = x := by
  unfold gd
  rw [List.getD_eq_getElem?_getD, h]
  rfl
/-- a word of the places 0 .. n: no step down, no step by more than one -/
structure Lip (n : Nat) (w : List Int) : Prop where
  len : w.length = n + 1
  step : ∀ i, i < n → gd w i ≤ gd w (i + 1) ∧ gd w (i + 1) ≤ gd w i + 1
/-- what is kept throughout: between the least that is due and, with Z, the most -/
structure Bnd (n : Nat) (s : Int) (Z : Prop) (w : List Int) : Prop where
  nn : ∀ i, i ≤ n → 0 ≤ gd w i
  lo : s ≤ gd w n
  up : Z → ∀ i, i ≤ n → gd w i ≤ max 0 (s - n + i)
/-- a tight word -/
structure Tight (n : Nat) (s : Int) (w : List Int) : Prop where
  len : w.length = n + 1
  zero : gd w 0 = 0
  step : ∀ i, i < n → gd w i ≤ gd w (i + 1) ∧ gd w (i + 1) ≤ gd w i + 1
  last : gd w n = s
/-- tight words of sizes -/
structure TightWs (n : Nat) (szs : List Int) (ws : List (List Int)) : Prop where
  len : ws.length = szs.length
  each : ∀ (f : Nat) (w : List Int), ws[f]? = some w → Tight n (gd szs f) w
  mono : ∀ (f : Nat) (w v : List Int), ws[f]? = some w → ws[f + 1]? = some v → ∀ i, i ≤ n → gd w i ≤ gd v i ∧ gd v i ≤ gd w i + (gd szs (f + 1) - gd szs f)
def ZeroOk (n : Nat) (rows : List (List Int)) (szs : List Int) : Prop := (∀ row ∈ rows, ∀ i, gd row i = 0) ∧ (∀ s ∈ szs, 0 ≤ s ∧ s ≤ n) ∧ ∀ f, f + 1 < szs.length → gd szs f ≤ gd szs (f + 1)
theorem ones_both {α : Type} (l : List α) : (SeqAt.shaped (.list (l.map fun _ => PyData.int 1)) = true) ∧ PyData.eqv (.list (l.map fun _ => PyData.int 1)) (.list []) = l.isEmpty := by
  have a := (Faith.int.lst).shaped (by decide) (l.map fun _ => (1 : Int))
  have b := (Faith.int.lst).eq (l.map fun _ => (1 : Int)) []
  rw [List.map_map] at a b
  refine ⟨a, ?_⟩
  have c : PyData.eqv (.list (l.map fun _ => PyData.int 1)) (.list []) = decide (l.map (fun _ => (1 : Int)) = []) := b
  rw [c]
  cases l <;> simp
theorem ones_sh {α : Type} (l : List α) : SeqAt.shaped (.list (l.map fun _ => PyData.int 1)) = true := (ones_both l).1
theorem ones_eq {α : Type} (l : List α) : PyData.eqv (.list (l.map fun _ => PyData.int 1)) (.list []) = l.isEmpty := (ones_both l).2
abbrev C_law_tightened : Ct := ⟨List (List Int) × List Int × Nat, fun a => [wsD a.1, tI a.2.1], fun a => a.1 ≠ [] ∧ a.1.length = a.2.1.length ∧ a.1.length ≤ 100 ∧ a.2.2 ≤ 100 ∧ ∀ row ∈ a.1, row.length = a.2.2 + 1,
  fun a d => (d = .none ∧ ¬ ZeroOk a.2.2 a.1 a.2.1) ∨ ∃ ws, d = wsD ws ∧ TightWs a.2.2 a.2.1 ws⟩
theorem d_law_tightened {K : PySem.W.Frag} : DOk (t__law_tightened K) C_law_tightened n__law_tightened 2 := by
  rintro ⟨rows, szs, n⟩ ⟨h1, h2, h3, h4, h5⟩ M
  have h1 : rows ≠ [] := h1
  have h2 : rows.length = szs.length := h2
  have h3 : rows.length ≤ 100 := h3
  have h4 : n ≤ 100 := h4
  have h5 : ∀ row ∈ rows, row.length = n + 1 := h5
  have hm : 0 < rows.length := List.length_pos_iff.mpr h1
  show SS M (t__law_tightened K) [.dat (wsD rows), .dat (tI szs), .no, .no, .no, .no, .no, .no, .no, .no, .no, .no, .no, .no] _ _
  unfold t__law_tightened
  try with_reducible refine ss_seq ?_
  refine ss_par3 (by simp) (by simp) (by simp) (by decide) (by decide) (by decide) ?_
  refine ws_dat ?_
  repeat bv_omega
  refine ws_dat ?_
  repeat bv_omega
  refine dIx_tup (d := tI (rows.headD [])) (by cases rows with | nil => exact absurd rfl h1 | cons a l => exact atI_lt (l := (a :: l).map tI) (i := 0) rfl) ?_
  repeat bv_omega
  refine ws_own (wl_lst ?_)
  repeat bv_omega
  refine ws_nil ⟨_, _, _, rfl, ?_⟩
  dsimp only [List.set]
  have hn : ((((rows.headD []).map PyData.int).length : Nat) : Int) - 1 = n := by
    cases rows with
    | nil => exact absurd rfl h1
    | cons a l =>
      have := h5 a (.head _)
      simp [this]
  rw [hn, List.length_map]
  try with_reducible refine ss_seq ?_
  -- the sizes go up
  refine ss_if (wt_eq (R' := fun b => (b = false → (∀ f, f < szs.length → 0 ≤ gd szs f) ∧ ∀ f, f + 1 < szs.length → gd szs f ≤ gd szs (f + 1)) ∧ (b = true → ¬ ZeroOk n rows szs)) ?_ fun b hb => ⟨fun z => ?_, fun z => ?_⟩)
  · repeat bv_omega
    refine dAdd_tup (xs := [.int 0]) (by rw [sizeLine_eq]; simp; omega) ?_
    repeat bv_omega
    have ez : zpD (PyData.int 0 :: szs.map .int) (szs.map .int) = ((0 :: szs).zip szs).map fun p => prD (.int p.1) (.int p.2) := zpD_map (0 :: szs) szs .int .int
    have e1 : [PyData.int 0] ++ szs.map .int = PyData.int 0 :: szs.map .int := rfl
    rw [e1]
    refine lcOk ((0 :: szs).zip szs) _ ez (fun p => decide (p.2 < p.1)) (fun _ => .int 1) (sm_lt (by simp; omega)) (fun i p hp => ?_) ?_
    · dsimp only [prD, wipeD, List.set]
      repeat bv_omega
      refine ⟨rfl, fun _ => ?_⟩
      repeat bv_omega
    repeat bv_omega
    have hsh : ∀ l : List (Int × Int), (SeqAt.shaped (.list (l.map fun _ => PyData.int 1)) = true) ∧ PyData.eqv (.list (l.map fun _ => PyData.int 1)) (.list []) = l.isEmpty := fun l => by
      have a := (Faith.int.lst).shaped (by decide) (l.map fun _ => (1 : Int))
      have b := (Faith.int.lst).eq (l.map fun _ => (1 : Int)) []
      rw [List.map_map] at a b
      refine ⟨a, ?_⟩
      have c : PyData.eqv (.list (l.map fun _ => PyData.int 1)) (.list []) = decide (l.map (fun _ => (1 : Int)) = []) := b
      rw [c]
      cases l <;> simp
    refine ⟨(hsh _).1, rfl, _, rfl, ?_⟩
    rw [(hsh _).2]
    have key : (((0 :: szs).zip szs).filter fun p => decide (p.2 < p.1)).isEmpty = true ↔ (∀ f, f < szs.length → 0 ≤ gd szs f) ∧ ∀ f, f + 1 < szs.length → gd szs f ≤ gd szs (f + 1) := by
      rw [List.isEmpty_iff, List.filter_eq_nil_iff]
      constructor
      · intro h
        have h' : ∀ f, f < szs.length → gd (0 :: szs) f ≤ gd szs f := fun f hf => by
          have hz : ((0 :: szs).zip szs)[f]? = some (gd (0 :: szs) f, gd szs f) := List.getElem?_zip_eq_some.mpr ⟨getD_some (by simp; omega), getD_some hf⟩
          have := h _ (List.mem_of_getElem? hz)
          simpa using this
        have h'' : ∀ f, f + 1 < szs.length → gd szs f ≤ gd szs (f + 1) := fun f hf => h' (f + 1) hf
        refine ⟨fun f hf => ?_, h''⟩
        induction f with
        | zero => exact h' 0 hf
        | succ f ih => exact Int.le_trans (ih (by omega)) (h'' f hf)
      · rintro ⟨a, b⟩ p hp
        obtain ⟨f, hf⟩ := List.getElem?_of_mem hp
        obtain ⟨q1, q2⟩ := List.getElem?_zip_eq_some.mp hf
        have e2 := gd_some q2
        have hfl := (List.getElem?_eq_some_iff.mp q2).1
        cases f with
        | zero =>
          have e1 := gd_some q1
          have e1 : (0 : Int) = p.1 := e1
          have := a 0 hfl
          simp; omega
        | succ f =>
          have e1 : gd szs f = p.1 := gd_some q1
          have := b f hfl
          simp; omega
    refine ⟨fun q => key.mp (by simpa using q), fun q z => ?_⟩
    have := key.mpr ⟨fun f hf => (z.2.1 _ (List.mem_of_getElem? (getD_some hf))).1, z.2.2⟩
    rw [this] at q
    cases q
  · repeat bv_omega
    exact .inl ⟨rfl, hb.2 z⟩
  obtain ⟨hs0, hsm⟩ := hb.1 z
  clear hb z b
  repeat bv_omega
  -- each row by itself
  have hz : zpD (rows.map tI) (szs.map .int) = (rows.zip szs).map fun p => prD (tI p.1) (.int p.2) := zpD_map rows szs tI .int
  with_reducible refine ss_forL [6, 7] ?_
  repeat bv_omega
  let Z : Prop := ZeroOk n rows szs
  let S : List (List Int) → List SD := fun W => [.dat (wsD rows), .dat (tI szs), .dat (.int (rows.length : Nat)), .dat (.int n), .own (W.map lI), .no, .no, .no, .no, .no, .no, .no, .no, .no]
  have hzl : (rows.zip szs).length = rows.length := by simp; omega
  refine forOkE (β := List (List Int)) (rows.zip szs) _ hz S (fun i W => W.length = i ∧ ∀ (f : Nat) (w : List Int), W[f]? = some w → Lip n w ∧ Bnd n (gd szs f) Z w) [] ⟨rfl, fun f w h => by simp at h⟩ (by simp only [S, List.length_map]; symm_saturate) (fun i ⟨row, s⟩ W hi Φ => ?_) fun W Φ => ?_
  · obtain ⟨hr, hs⟩ := List.getElem?_zip_eq_some.mp hi
    have hil := (List.getElem?_eq_some_iff.mp hr).1
    obtain ⟨p1, p2⟩ := Φ
    have hrl : row.length = n + 1 := h5 row (List.mem_of_getElem? hr)
    have hsi : gd szs i = s := gd_some hs
    have hZ : Z → (∀ j, gd row j = 0) ∧ 0 ≤ s ∧ s ≤ n := fun z => ⟨z.1 row (List.mem_of_getElem? hr), z.2.1 s (List.mem_of_getElem? hs)⟩
    dsimp only [prD, S]
    repeat bv_omega
    dsimp only [List.set]
    refine ss_par (by simp) (by simp) (by decide) ?_
    refine ws_own (wl_lst ?_)
    repeat bv_omega
    refine ws_dat ?_
    repeat bv_omega
    refine ws_nil ⟨_, _, rfl, ?_⟩
    dsimp only [List.set]
    try with_reducible refine ss_seq ?_
    with_reducible refine ss_forL [10, 5] ?_
    repeat bv_omega
    let S1 : List Int × Int → List SD := fun y => [.dat (wsD rows), .dat (tI szs), .dat (.int (rows.length : Nat)), .dat (.int n), .own (W.map lI), .no, .dat (tI row), .dat (.int s), .own (y.1.map .int), .dat (.int y.2), .no, .no, .no, .no]
    let N2 : List SD → Prop := fun δ' => ∃ w : List Int, (w.length = n + 1 ∧ (∀ j, j < n → gd w j ≤ gd w (j + 1)) ∧ Bnd n s Z w) ∧ Le δ' [.dat (wsD rows), .dat (tI szs), .dat (.int (rows.length : Nat)), .dat (.int n), .own (W.map lI), .no, .dat (tI row), .dat (.int s), .own (w.map .int), .no, .no, .no, .no, .no]
    refine forOkE (β := List Int × Int) row.zipIdx _ (enD_map0 row .int) S1 (fun i y => y.1.length = i ∧ 0 ≤ y.2 ∧ (∀ j, j < i → 0 ≤ gd y.1 j ∧ gd y.1 j ≤ y.2 ∧ s - n + j ≤ gd y.1 j) ∧ (∀ j, j + 1 < i → gd y.1 j ≤ gd y.1 (j + 1)) ∧ (Z → y.2 ≤ max 0 (s - n + i) ∧ ∀ j, j < i → gd y.1 j ≤ max 0 (s - n + j)))
      ([], 0) ⟨rfl, Int.le_refl _, (fun j h => absurd h (Nat.not_lt_zero _)), (fun j h => absurd h (Nat.not_lt_zero _)), fun z => ⟨by simp; omega, fun j h => absurd h (Nat.not_lt_zero _)⟩⟩ (Le.refl _) (fun k ⟨x, k'⟩ y hk Φ => ?_) fun y Φ => ?_
    · obtain ⟨hk, rfl⟩ := zi hk
      obtain ⟨acc, ahead⟩ := y
      obtain ⟨q1, q2, q3, q4, q5⟩ := Φ
      have q1 : acc.length = k' := q1
      have q2 : 0 ≤ ahead := q2
      have q3 : ∀ j, j < k' → 0 ≤ gd acc j ∧ gd acc j ≤ ahead ∧ s - n + j ≤ gd acc j := q3
      have q4 : ∀ j, j + 1 < k' → gd acc j ≤ gd acc (j + 1) := q4
      have q5 : Z → ahead ≤ max 0 (s - n + k') ∧ ∀ j, j < k' → gd acc j ≤ max 0 (s - n + j) := q5
      have hkl := (List.getElem?_eq_some_iff.mp hk).1
      have hx := gd_some hk
      dsimp only [prD, S1]
      repeat bv_omega
      dsimp only [List.set]
      try with_reducible refine ss_seq ?_
      refine ss_set ?_
      repeat bv_omega
      generalize ha : max (max ahead x) (s - n + (k' : Int)) = ahead'
      dsimp only [List.set]
      refine ss_append rfl ?_
      repeat bv_omega
      refine ⟨sm_lt (by simp; omega), ?_⟩
      dsimp only [List.set]
      refine ⟨(acc ++ [ahead'], ahead'), ⟨by simp; omega, by show 0 ≤ ahead'; omega, fun j hj => ?_, fun j hj => ?_, fun z => ?_⟩, ?_⟩
      · show 0 ≤ gd (acc ++ [ahead']) j ∧ gd (acc ++ [ahead']) j ≤ ahead' ∧ s - n + j ≤ gd (acc ++ [ahead']) j
        rw [gd_app]
        split
        · rename_i e
          rw [e, q1]
          omega
        · have := q3 j (by omega)
          omega
      · show gd (acc ++ [ahead']) j ≤ gd (acc ++ [ahead']) (j + 1)
        rw [gd_app, gd_app, if_neg (by omega)]
        split
        · have := q3 j (by omega)
          omega
        · exact q4 j (by omega)
      · obtain ⟨z1, z2⟩ := q5 z
        obtain ⟨z3, z4, z5⟩ := hZ z
        have hx0 : x = 0 := by rw [← hx]; exact z3 k'
        refine ⟨by show ahead' ≤ max 0 (s - n + ((k' + 1 : Nat) : Int)); omega, fun j hj => ?_⟩
        show gd (acc ++ [ahead']) j ≤ _
        rw [gd_app]
        split
        · rename_i e
          rw [e, q1]
          omega
        · exact z2 j (by omega)
      · dsimp only [S1]
        rw [List.map_append]
        symm_saturate
    · obtain ⟨acc, ahead⟩ := y
      obtain ⟨q1, q2, q3, q4, q5⟩ := Φ
      rw [List.length_zipIdx, hrl] at q1 q3 q4 q5
      have q1 : acc.length = n + 1 := q1
      have q3 : ∀ j, j < n + 1 → 0 ≤ gd acc j ∧ gd acc j ≤ ahead ∧ s - n + j ≤ gd acc j := q3
      have q4 : ∀ j, j + 1 < n + 1 → gd acc j ≤ gd acc (j + 1) := q4
      have q5 : Z → ahead ≤ max 0 (s - n + ((n + 1 : Nat) : Int)) ∧ ∀ j, j < n + 1 → gd acc j ≤ max 0 (s - n + j) := q5
      dsimp only [S1]
      try with_reducible refine ss_seq ?_
      with_reducible refine ss_forL [10] ?_
      repeat bv_omega
      refine ⟨by omega, ?_⟩
      have ek : ((n : Int) - 1 - -1).toNat = n := by omega
      refine forOkE (β := List Int) (List.range n) _ (by rw [ek]; exact rdD_map _ n) (fun w => [.dat (wsD rows), .dat (tI szs), .dat (.int (rows.length : Nat)), .dat (.int n), .own (W.map lI), .no, .dat (tI row), .dat (.int s), .own (w.map .int), .no, .no, .no, .no, .no])
        (fun i w => w.length = n + 1 ∧ (∀ j, j < n → gd w j ≤ gd w (j + 1)) ∧ (∀ j, n ≤ j + i → j < n → gd w (j + 1) ≤ gd w j + 1) ∧ Bnd n s Z w) acc ⟨q1, fun j hj => q4 j (by omega), fun j h1 h2 => by omega, fun j hj => (q3 j (by omega)).1, by have := (q3 n (by omega)).2.2; omega, fun z j hj => (q5 z).2 j (by omega)⟩ (by symm_saturate) (fun k d w hk Φ => ?_) fun w Φ => ?_
      · have hkn : k < n ∧ d = k := by
          obtain ⟨a, b⟩ := List.getElem?_eq_some_iff.mp hk
          simp at a b
          omega
        obtain ⟨hkn, rfl⟩ := hkn
        obtain ⟨r1, r2, r3, r4⟩ := Φ
        have ec : (n : Int) - 1 - (d : Nat) = ((n - 1 - d : Nat) : Int) := by omega
        generalize hc : n - 1 - d = c at ec
        rw [ec]
        repeat bv_omega
        dsimp only [List.set]
        refine ss_item rfl ?_
        refine we_frz ?_
        dsimp only [frz]
        repeat bv_omega
        refine dIx_list (d := .int (gd w c)) (atI_get c rfl (by omega)) ?_
        repeat bv_omega
        refine dIx_list (d := .int (gd w (c + 1))) (atI_get (c + 1) (by omega) (by omega)) ?_
        repeat bv_omega
        refine ⟨rfl, ?_⟩
        repeat bv_omega
        refine ⟨by rw [List.length_map]; omega, ?_⟩
        dsimp only [List.set]
        rw [set_map]
        have hg : ∀ j, gd (w.set c (max (gd w c) (gd w (c + 1) - 1))) j = if c = j then max (gd w c) (gd w (c + 1) - 1) else gd w j := fun j => gd_set (by omega)
        have r2c := r2 c (by omega)
        refine ⟨w.set c (max (gd w c) (gd w (c + 1) - 1)), ⟨by rw [List.length_set]; exact r1, fun j hj => ?_, fun j h1 h2 => ?_, fun j hj => ?_, ?_, fun z j hj => ?_⟩, by symm_saturate⟩
        · rw [hg, hg]
          have := r2 j hj
          split <;> split
          · omega
          · rename_i e _; subst e; omega
          · rename_i _ e; subst e; omega
          · exact this
        · rw [hg, hg]
          have := r2 j h2
          by_cases e1 : c = j
          · subst e1
            rw [if_pos rfl, if_neg (by omega)]
            omega
          · rw [if_neg e1, if_neg (by omega)]
            exact r3 j (by omega) h2
        · rw [hg]
          have a := r4.nn c (by omega)
          split
          · omega
          · exact r4.nn j hj
        · rw [hg, if_neg (by omega)]
          exact r4.lo
        · rw [hg]
          split
          · rename_i e
            subst e
            have a := r4.up z c hj
            have b := r4.up z (c + 1) (by omega)
            omega
          · exact r4.up z j hj
      · obtain ⟨r1, r2, r3, r4⟩ := Φ
        rw [List.length_range] at r3
        try dsimp only
        refine ss_frz (i := 8) rfl ?_
        dsimp only [List.set]
        refine ss_append rfl ?_
        repeat bv_omega
        have hWl : W.length = i := p1
        refine ⟨sm_lt (by rw [List.length_map]; omega), ?_⟩
        dsimp only [List.set]
        refine ⟨W ++ [w], ⟨by simp; omega, fun f v hv => ?_⟩, by simp only [S, List.map_append]; symm_saturate⟩
        by_cases hf : f < W.length
        · rw [List.getElem?_append_left hf] at hv
          exact p2 f v hv
        · rw [List.getElem?_append_right (by omega)] at hv
          have e : f = i := by
            have := (List.getElem?_eq_some_iff.mp hv).1
            simp at this
            omega
          subst e
          rw [hWl, Nat.sub_self] at hv
          simp at hv
          subst hv
          rw [hsi]
          exact ⟨⟨r1, fun j hj => ⟨r2 j hj, r3 j (by omega) hj⟩⟩, r4⟩
  · obtain ⟨p1, p2⟩ := Φ
    rw [hzl] at p1
    dsimp only [S]
    have hgs : ∀ f, f + 1 < rows.length → gd szs f ≤ gd szs (f + 1) := fun f hf => hsm f (by omega)
    -- upwards
    try with_reducible refine ss_seq ?_
    with_reducible refine ss_forL [11] ?_
    repeat bv_omega
    refine ⟨by omega, ?_⟩
    let S3 : List (List Int) → List SD := fun W => [.dat (wsD rows), .dat (tI szs), .dat (.int (rows.length : Nat)), .dat (.int n), .own (W.map lI), .no, .no, .no, .no, .no, .no, .no, .no, .no]
    have e1 : rgD 1 ((rows.length : Int) - 1).toNat = (List.range (rows.length - 1)).map fun i => PyData.int ((1 + i : Nat) : Int) := by
      rw [rgD_map]
      have : ((rows.length : Int) - 1).toNat = rows.length - 1 := by omega
      rw [this]
      refine List.map_congr_left fun i _ => ?_
      show PyData.int _ = PyData.int _
      congr 1
    refine forOkE (β := List (List Int)) (List.range (rows.length - 1)) _ e1 S3 (fun i W => W.length = rows.length ∧ (∀ (f : Nat) (w : List Int), W[f]? = some w → Lip n w ∧ Bnd n (gd szs f) Z w) ∧ ∀ (f : Nat) (w v : List Int), f < i → W[f]? = some w → W[f + 1]? = some v → ∀ j, j ≤ n → gd w j ≤ gd v j) W ⟨p1, p2, fun f w v h => absurd h (Nat.not_lt_zero _)⟩ (by symm_saturate) (fun i d V hi Φ => ?_) fun V Φ => ?_
    · have hd : d = i ∧ i < rows.length - 1 := by
        obtain ⟨a, b⟩ := List.getElem?_eq_some_iff.mp hi
        simp at a b
        omega
      obtain ⟨rfl, hil⟩ := hd
      obtain ⟨q1, q2, q3⟩ := Φ
      obtain ⟨w, hw⟩ : ∃ w, V[1 + d]? = some w := ⟨_, List.getElem?_eq_getElem (by omega)⟩
      obtain ⟨v, hv⟩ : ∃ v, V[d]? = some v := ⟨_, List.getElem?_eq_getElem (by omega)⟩
      obtain ⟨w1, w2⟩ := q2 _ _ hw
      obtain ⟨v1, v2⟩ := q2 _ _ hv
      have hwl := w1.len
      have hvl := v1.len
      dsimp only [S3]
      repeat bv_omega
      dsimp only [List.set]
      refine ss_item rfl (we_of_wl (wl_lcL ?_))
      repeat bv_omega
      refine ⟨_, _, rfl, atI_map hw, ?_⟩
      repeat bv_omega
      refine ⟨_, _, rfl, by rw [show ((1 + d : Nat) : Int) - 1 = (d : Nat) by omega]; exact atI_map hv, ?_⟩
      repeat bv_omega
      refine lcOkM (w.zip v) _ (zpD_map w v .int .int) (fun p => .int (max p.1 p.2)) (sm_lt (by simp; omega)) (fun j p hp => ?_) ?_
      · dsimp only [prD, wipeD, List.set]
        repeat bv_omega
        refine ⟨rfl, ?_⟩
        repeat bv_omega
      · repeat bv_omega
        refine ⟨by rw [List.length_map]; omega, ?_⟩
        dsimp only [List.set]
        have hset : PyData.list ((w.zip v).map fun p => PyData.int (max p.1 p.2)) = lI ((w.zip v).map fun p => max p.1 p.2) := by simp
        rw [hset, set_map]
        have hg : ∀ j, j ≤ n → gd ((w.zip v).map fun p => max p.1 p.2) j = max (gd w j) (gd v j) := fun j hj => gd_zip (by omega) (by omega)
        have hzl2 : ((w.zip v).map fun p => max p.1 p.2).length = n + 1 := by simp; omega
        generalize ((w.zip v).map fun p => max p.1 p.2) = u at hg hzl2
        have hul : u.length = n + 1 := hzl2
        have hlip : Lip n u := by
          refine ⟨hul, fun j hj => ?_⟩
          rw [hg j (by omega), hg (j + 1) (by omega)]
          have a := w1.step j hj
          have b := v1.step j hj
          omega
        have hbnd : Bnd n (gd szs (1 + d)) Z u := by
          refine ⟨fun j hj => ?_, ?_, fun z j hj => ?_⟩
          · rw [hg j hj]
            have := w2.nn j hj
            omega
          · rw [hg n (Nat.le_refl _)]
            have := w2.lo
            omega
          · rw [hg j hj]
            have a := w2.up z j hj
            have b := v2.up z j hj
            have c := hgs d (by omega)
            rw [Nat.add_comm 1 d] at a ⊢
            omega
        refine ⟨V.set (1 + d) u, ⟨by rw [List.length_set]; exact q1, fun f x hx => ?_, fun f x y hf hx hy => ?_⟩, by symm_saturate⟩
        · by_cases e : 1 + d = f
          · subst e
            rw [List.getElem?_set_self (by omega)] at hx
            cases hx
            exact ⟨hlip, hbnd⟩
          · rw [List.getElem?_set_ne e] at hx
            exact q2 f x hx
        · rw [List.getElem?_set_ne (by omega)] at hx
          by_cases e : f = d
          · subst e
            rw [hv] at hx
            cases hx
            rw [show f + 1 = 1 + f by omega, List.getElem?_set_self (by omega)] at hy
            cases hy
            intro j hj
            rw [hg j hj]
            omega
          · rw [List.getElem?_set_ne (by omega)] at hy
            exact q3 f x y (by omega) hx hy
    · obtain ⟨q1, q2, q3⟩ := Φ
      rw [List.length_range] at q3
      have q1 : V.length = rows.length := q1
      dsimp only [S3]
      -- downwards
      try with_reducible refine ss_seq ?_
      with_reducible refine ss_forL [11] ?_
      repeat bv_omega
      refine ⟨by omega, ?_⟩
      let S4 : List (List Int) → List SD := fun W => [.dat (wsD rows), .dat (tI szs), .dat (.int (rows.length : Nat)), .dat (.int n), .own (W.map lI), .no, .no, .no, .no, .no, .no, .no, .no, .no]
      have e4 : ((rows.length : Int) - 2 - -1).toNat = rows.length - 1 := by omega
      refine forOkE (β := List (List Int)) (List.range (rows.length - 1)) _ (by rw [e4]; exact rdD_map _ _) S4 (fun i W => W.length = rows.length ∧ (∀ (f : Nat) (w : List Int), W[f]? = some w → Lip n w ∧ Bnd n (gd szs f) Z w) ∧ (∀ (f : Nat) (w v : List Int), W[f]? = some w → W[f + 1]? = some v → ∀ j, j ≤ n → gd w j ≤ gd v j) ∧
        ∀ (f : Nat) (w v : List Int), rows.length ≤ f + 1 + i → W[f]? = some w → W[f + 1]? = some v → ∀ j, j ≤ n → gd v j ≤ gd w j + (gd szs (f + 1) - gd szs f)) V ⟨q1, q2, fun f w v hw hv => q3 f w v (by have := (List.getElem?_eq_some_iff.mp hv).1; omega) hw hv, fun f w v h hw hv => by have := (List.getElem?_eq_some_iff.mp hv).1; omega⟩ (by symm_saturate) (fun i d V hi Φ => ?_) fun V Φ => ?_
      · have hd : d = i ∧ i < rows.length - 1 := by
          obtain ⟨a, b⟩ := List.getElem?_eq_some_iff.mp hi
          simp at a b
          omega
        obtain ⟨rfl, hil⟩ := hd
        obtain ⟨q1, q2, q3, q4⟩ := Φ
        have ec : (rows.length : Int) - 2 - (d : Nat) = ((rows.length - 2 - d : Nat) : Int) := by omega
        generalize hc : rows.length - 2 - d = c at ec
        rw [ec]
        obtain ⟨w, hw⟩ : ∃ w, V[c]? = some w := ⟨_, List.getElem?_eq_getElem (by omega)⟩
        obtain ⟨v, hv⟩ : ∃ v, V[c + 1]? = some v := ⟨_, List.getElem?_eq_getElem (by omega)⟩
        obtain ⟨w1, w2⟩ := q2 _ _ hw
        obtain ⟨v1, v2⟩ := q2 _ _ hv
        have hwl := w1.len
        have hvl := v1.len
        dsimp only [S4]
        repeat bv_omega
        dsimp only [List.set]
        try with_reducible refine ss_seq ?_
        refine ss_set ?_
        repeat bv_omega
        refine dIx_at (c + 1) (by omega) (by omega) ?_
        repeat bv_omega
        refine dIx_tin (by omega) ?_
        repeat bv_omega
        generalize hmo : szs.getD (c + 1) 0 - szs.getD c 0 = mo
        have hmo0 : 0 ≤ mo := by have := hgs c (by omega); unfold gd at this; omega
        dsimp only [List.set]
        refine ss_item rfl (we_of_wl (wl_lcL ?_))
        repeat bv_omega
        refine ⟨_, _, rfl, atI_map hw, ?_⟩
        repeat bv_omega
        refine ⟨_, _, rfl, by rw [show (c : Int) + 1 = ((c + 1 : Nat) : Int) by omega]; exact atI_map hv, ?_⟩
        repeat bv_omega
        refine lcOkM (w.zip v) _ (zpD_map w v .int .int) (fun p => .int (max p.1 (p.2 - mo))) (sm_lt (by simp; omega)) (fun j p hp => ?_) ?_
        · dsimp only [prD, wipeD, List.set]
          repeat bv_omega
          refine ⟨rfl, ?_⟩
          repeat bv_omega
        · repeat bv_omega
          refine ⟨by rw [List.length_map]; omega, ?_⟩
          dsimp only [List.set]
          have hset : PyData.list ((w.zip v).map fun p => PyData.int (max p.1 (p.2 - mo))) = lI ((w.zip v).map fun p => max p.1 (p.2 - mo)) := by simp
          rw [hset, set_map]
          have hg : ∀ j, j ≤ n → gd ((w.zip v).map fun p => max p.1 (p.2 - mo)) j = max (gd w j) (gd v j - mo) := fun j hj => gd_zip (f := fun a b => max a (b - mo)) (by omega) (by omega)
          have hul0 : ((w.zip v).map fun p => max p.1 (p.2 - mo)).length = n + 1 := by simp; omega
          generalize ((w.zip v).map fun p => max p.1 (p.2 - mo)) = u at hg hul0
          have hlip : Lip n u := by
            refine ⟨hul0, fun j hj => ?_⟩
            rw [hg j (by omega), hg (j + 1) (by omega)]
            have a := w1.step j hj
            have b := v1.step j hj
            omega
          have hbnd : Bnd n (gd szs c) Z u := by
            refine ⟨fun j hj => ?_, ?_, fun z j hj => ?_⟩
            · rw [hg j hj]
              have := w2.nn j hj
              omega
            · rw [hg n (Nat.le_refl _)]
              have := w2.lo
              omega
            · rw [hg j hj]
              have a := w2.up z j hj
              have b := v2.up z j hj
              unfold gd at a b ⊢
              omega
          refine ⟨V.set c u, ⟨by rw [List.length_set]; exact q1, fun f x hx => ?_, fun f x y hx hy => ?_, fun f x y hf hx hy => ?_⟩, by symm_saturate⟩
          · by_cases e : c = f
            · subst e
              rw [List.getElem?_set_self (by omega)] at hx
              cases hx
              exact ⟨hlip, hbnd⟩
            · rw [List.getElem?_set_ne e] at hx
              exact q2 f x hx
          · by_cases e : c = f
            · subst e
              rw [List.getElem?_set_self (by omega)] at hx
              rw [List.getElem?_set_ne (by omega), hv] at hy
              cases hx
              cases hy
              intro j hj
              rw [hg j hj]
              have := q3 c w v hw hv j hj
              omega
            · rw [List.getElem?_set_ne e] at hx
              by_cases e2 : c = f + 1
              · rw [← e2, List.getElem?_set_self (by omega)] at hy
                cases hy
                intro j hj
                rw [hg j hj]
                have := q3 f x w hx (by rw [← e2]; exact hw) j hj
                omega
              · rw [List.getElem?_set_ne e2] at hy
                exact q3 f x y hx hy
          · by_cases e : c = f
            · subst e
              rw [List.getElem?_set_self (by omega)] at hx
              rw [List.getElem?_set_ne (by omega), hv] at hy
              cases hx
              cases hy
              intro j hj
              rw [hg j hj]
              unfold gd at *
              omega
            · rw [List.getElem?_set_ne e] at hx
              rw [List.getElem?_set_ne (by omega)] at hy
              exact q4 f x y (by omega) hx hy
      · obtain ⟨q1, q2, q3, q4⟩ := Φ
        rw [List.length_range] at q4
        have q1 : V.length = rows.length := q1
        dsimp only [S4]
        try with_reducible refine ss_seq ?_
        refine ss_frz (i := 4) rfl ?_
        dsimp only [List.set]
        have hz2 : zpD (V.map lI) (szs.map .int) = (V.zip szs).map fun p => prD (lI p.1) (.int p.2) := zpD_map V szs lI .int
        with_reducible refine ss_forL [8, 7] ?_
        repeat bv_omega
        refine forOkI (V.zip szs) _ hz2 (fun _ => [.dat (wsD rows), .dat (tI szs), .dat (.int (rows.length : Nat)), .dat (.int n), .dat (.list (V.map lI)), .no, .no, .no, .no, .no, .no, .no, .no, .no]) (fun i => ∀ (f : Nat) (w : List Int), f < i → V[f]? = some w → ∀ j, j ≤ n → gd w j ≤ min (j : Int) (gd szs f)) (fun _ _ h => absurd h (Nat.not_lt_zero _)) (Le.refl _) (fun i ⟨w, s⟩ hi Φ => ?_) fun Φ => ?_
        · obtain ⟨hw, hs⟩ := List.getElem?_zip_eq_some.mp hi
          have hw : V[i]? = some w := hw
          have hs : szs[i]? = some s := hs
          obtain ⟨w1, w2⟩ := q2 _ _ hw
          have hwl := w1.len
          have hsi : gd szs i = s := gd_some hs
          dsimp only [prD]
          repeat bv_omega
          dsimp only [List.set]
          refine ss_if (wt_eq (R' := fun b => (b = false → ∀ j, j ≤ n → gd w j ≤ min (j : Int) s) ∧ (b = true → ∃ j, j ≤ n ∧ min (j : Int) s < gd w j)) ?_ fun b hb => ⟨fun z => ?_, fun z => ?_⟩)
          · repeat bv_omega
            refine lcOk w.zipIdx _ (enD_map0 w .int) (fun p => decide (min (p.2 : Int) s < p.1)) (fun _ => .int 1) (sm_lt (by simp; omega)) (fun j p hp => ?_) ?_
            · dsimp only [prD, wipeD, List.set]
              repeat bv_omega
              refine ⟨rfl, fun _ => ?_⟩
              repeat bv_omega
            repeat bv_omega
            refine ⟨ones_sh _, rfl, _, rfl, ?_⟩
            rw [ones_eq]
            refine ⟨fun q j hj => ?_, fun q => ?_⟩
            · have q : ((w.zipIdx.filter fun p => decide (min (p.2 : Int) s < p.1)).isEmpty) = true := by simpa using q
              rw [List.isEmpty_iff, List.filter_eq_nil_iff] at q
              have hj2 : w.zipIdx[j]? = some (gd w j, j) := by
                rw [List.getElem?_zipIdx, getD_some (by omega)]
                simp
              have := q _ (List.mem_of_getElem? hj2)
              simpa using this
            · have q : ((w.zipIdx.filter fun p => decide (min (p.2 : Int) s < p.1)).isEmpty) = false := by simpa using q
              cases hfl : w.zipIdx.filter fun p => decide (min (p.2 : Int) s < p.1) with
              | nil => rw [hfl] at q; cases q
              | cons p l =>
                have hp : p ∈ w.zipIdx.filter fun p => decide (min (p.2 : Int) s < p.1) := by rw [hfl]; exact .head _
                obtain ⟨hp1, hp2⟩ := List.mem_filter.mp hp
                obtain ⟨j, hj⟩ := List.getElem?_of_mem hp1
                obtain ⟨x, j'⟩ := p
                obtain ⟨hj, rfl⟩ := zi hj
                have := (List.getElem?_eq_some_iff.mp hj).1
                refine ⟨j', by omega, ?_⟩
                rw [gd_some hj]
                exact of_decide_eq_true hp2
          · repeat bv_omega
            obtain ⟨j, hj, hlt⟩ := hb.2 z
            refine .inl ⟨rfl, fun zz => ?_⟩
            have a := w2.up zz j hj
            rw [hsi] at a
            have b := zz.2.1 s (List.mem_of_getElem? hs)
            have b : 0 ≤ s ∧ s ≤ n := b
            omega
          · repeat bv_omega
            refine ⟨fun f x hf hx => ?_, by symm_saturate⟩
            by_cases e : f = i
            · subst e
              rw [hw] at hx
              cases hx
              rw [hsi]
              exact hb.1 z
            · exact Φ f x (by omega) hx
        · have hVl : (V.zip szs).length = rows.length := by simp; omega
          rw [hVl] at Φ
          repeat bv_omega
          refine lcOkM V lI rfl tI (sm_lt (by omega)) (fun i w hw => ?_) ?_
          · dsimp only [wipeD, List.set]
            repeat bv_omega
            refine ⟨rfl, ?_⟩
            repeat bv_omega
          · repeat bv_omega
            refine .inr ⟨V, rfl, by show V.length = szs.length; omega, fun f w hw => ?_, fun f w v hw hv j hj => ?_⟩
            · obtain ⟨w1, w2⟩ := q2 f w hw
              have hfl := (List.getElem?_eq_some_iff.mp hw).1
              have hc := Φ f w (by omega) hw
              refine ⟨w1.len, ?_, w1.step, ?_⟩
              · have a := hc 0 (Nat.zero_le _)
                have b := w2.nn 0 (Nat.zero_le _)
                omega
              · have a := hc n (Nat.le_refl _)
                have b := w2.lo
                show gd w n = gd szs f
                omega
            · have hfl := (List.getElem?_eq_some_iff.mp hv).1
              exact ⟨q3 f w v hw hv j hj, q4 f w v (by omega) hw hv j hj⟩

end
section
/-! FkG2: knowledge that is led on. -/
structure Vk (h : House) (k : Know) : Prop where
  perm : k.1.Perm (rgI h.1)
  nf : k.2.length = h.2.length
  tight : TightWs h.1.toNat (ksz k) k.2
  room0 : gd (ksz k) 0 ≤ gd h.2 0
  room : ∀ f, f + 1 < h.2.length → gd (ksz k) (f + 1) - gd (ksz k) f ≤ gd h.2 (f + 1)
theorem last_gd {w : List Int} {n : Nat} (h : w.length = n + 1) : w.getLastD 0 = gd w n := by
  unfold gd
  rw [List.getLastD_eq_getLast?, List.getLast?_eq_getElem?, List.getD_eq_getElem?_getD, h, Nat.add_sub_cancel]
theorem ksz_eq {n : Nat} {o : List Int} {szs : List Int} {ws : List (List Int)} (h : TightWs n szs ws) : ksz (o, ws) = szs := by
  refine List.ext_getElem? fun f => ?_
  show (ws.map fun w => w.getLastD 0)[f]? = _
  rw [List.getElem?_map]
  cases hw : ws[f]? with
  | none =>
    have := List.getElem?_eq_none_iff.mp hw
    rw [List.getElem?_eq_none (by rw [← h.len]; exact this)]
    rfl
  | some w =>
    have hf := (List.getElem?_eq_some_iff.mp hw).1
    have t := h.each f w hw
    rw [getD_some (show f < szs.length by rw [← h.len]; exact hf)]
    show some (w.getLastD 0) = some (gd szs f)
    rw [last_gd t.len, t.last]
theorem rgI_len (n : Int) : (rgI n).length = n.toNat := by simp [rgI]
theorem rgI_mem {n t : Int} : t ∈ rgI n ↔ 0 ≤ t ∧ t < n := by
  unfold rgI
  rw [List.mem_map]
  constructor
  · rintro ⟨i, hi, rfl⟩
    have := List.mem_range.mp hi
    omega
  · rintro ⟨h1, h2⟩
    exact ⟨t.toNat, List.mem_range.mpr (by omega), by omega⟩
theorem rgI_nodup (n : Int) : (rgI n).Nodup := List.Pairwise.map _ (fun a b h => by intro e; exact h (Int.ofNat_inj.mp e)) List.nodup_range
section
variable {h : House} {k : Know}
theorem Vk.len (v : Vk h k) : k.1.length = h.1.toNat := by rw [v.perm.length_eq, rgI_len]
theorem Vk.kok (v : Vk h k) (hh : HOk h) : KOk k := by
  have h1 := v.len
  have h2 := hh.n1
  have h3 := hh.m1
  refine ⟨by omega, by rw [v.nf]; omega, fun w hw => ?_, fun t ht => ?_⟩
  · obtain ⟨f, hf⟩ := List.getElem?_of_mem hw
    rw [(v.tight.each f w hf).len, h1]
  · have := rgI_mem.mp (v.perm.subset ht)
    omega
theorem Vk.szl (v : Vk h k) : (ksz k).length = h.2.length := by rw [← v.tight.len, v.nf]
theorem Tight.mono {n : Nat} {s : Int} {w : List Int} (t : Tight n s w) : ∀ j i, i + j ≤ n → gd w i ≤ gd w (i + j)
  | 0, i, _ => Int.le_refl _
  | j + 1, i, h => Int.le_trans (t.mono j i (by omega)) (t.step (i + j) (by omega)).1
theorem Tight.nn {n : Nat} {s : Int} {w : List Int} (t : Tight n s w) (i : Nat) (h : i ≤ n) : 0 ≤ gd w i := by
  have := t.mono i 0 (by omega)
  rw [t.zero, Nat.zero_add] at this
  exact this
theorem TightWs.sz0 {n : Nat} {szs : List Int} {ws : List (List Int)} (t : TightWs n szs ws) (f : Nat) (hf : f < szs.length) : 0 ≤ gd szs f := by
  obtain ⟨w, hw⟩ : ∃ w, ws[f]? = some w := ⟨_, List.getElem?_eq_getElem (by rw [t.len]; exact hf)⟩
  have a := t.each f w hw
  rw [← a.last]
  exact a.nn n (Nat.le_refl _)
theorem TightWs.szm {n : Nat} {szs : List Int} {ws : List (List Int)} (t : TightWs n szs ws) (f : Nat) (hf : f + 1 < szs.length) : gd szs f ≤ gd szs (f + 1) := by
  obtain ⟨w, hw⟩ : ∃ w, ws[f]? = some w := ⟨_, List.getElem?_eq_getElem (by rw [t.len]; omega)⟩
  obtain ⟨v, hv⟩ : ∃ v, ws[f + 1]? = some v := ⟨_, List.getElem?_eq_getElem (by rw [t.len]; exact hf)⟩
  have a := t.mono f w v hw hv 0 (Nat.zero_le _)
  rw [(t.each _ _ hw).zero, (t.each _ _ hv).zero] at a
  omega
def cap (h : House) (f : Nat) : Int := (h.2.take (f + 1)).sum
theorem cap_succ {h : House} {f : Nat} (hf : f + 1 < h.2.length) : cap h (f + 1) = cap h f + gd h.2 (f + 1) := by
  unfold cap
  rw [take_snoc (getD_some hf), List.sum_append]
  simp
theorem cap_zero {h : House} (hf : 0 < h.2.length) : cap h 0 = gd h.2 0 := by
  unfold cap
  rw [take_snoc (getD_some hf)]
  simp
theorem Vk.cap (v : Vk h k) : ∀ f, f < h.2.length → gd (ksz k) f ≤ FK.cap h f
  | 0, hf => by rw [cap_zero hf]; exact v.room0
  | f + 1, hf => by
    have a := v.cap f (by omega)
    have b := v.room f hf
    rw [cap_succ hf]
    omega
end
/-- struck: behind the rest -/
def rowS (n : Nat) (w : List Int) : List Int := w ++ [gd w n]
/-- asked: ahead of the rest -/
def rowA (l : Int) (w : List Int) : List Int := 0 :: w.map fun x => max 0 (x - l) + 1
theorem rowA_gd {l : Int} {w : List Int} {i : Nat} (hi : i < w.length) : gd (rowA l w) (i + 1) = max 0 (gd w i - l) + 1 := by
  unfold rowA gd
  rw [List.getD_eq_getElem?_getD, List.getElem?_cons_succ, List.getElem?_map, getD_some hi]
  rfl
theorem strikeWs {n : Nat} {szs : List Int} {ws : List (List Int)} (t : TightWs n szs ws) : TightWs (n + 1) szs (ws.map (rowS n)) := by
  refine ⟨by rw [List.length_map]; exact t.len, fun f w hw => ?_, fun f w v hw hv i hi => ?_⟩
  · rw [List.getElem?_map] at hw
    cases hu : ws[f]? with
    | none => rw [hu] at hw; cases hw
    | some u =>
      rw [hu] at hw
      cases hw
      have a := t.each f u hu
      refine ⟨by unfold rowS; simp [a.len], ?_, fun i hi => ?_, ?_⟩
      · unfold rowS; rw [gd_app, if_neg (by rw [a.len]; omega)]; exact a.zero
      · unfold rowS
        rw [gd_app, gd_app, a.len, if_neg (by omega)]
        split
        · rename_i e
          have : i = n := by omega
          subst this
          omega
        · exact a.step i (by omega)
      · unfold rowS
        rw [gd_app, a.len, if_pos rfl]
        exact a.last
  · rw [List.getElem?_map] at hw hv
    cases hu : ws[f]? with
    | none => rw [hu] at hw; cases hw
    | some u =>
      cases hx : ws[f + 1]? with
      | none => rw [hx] at hv; cases hv
      | some x =>
        rw [hu] at hw
        rw [hx] at hv
        cases hw
        cases hv
        have a := t.each f u hu
        have b := t.each _ x hx
        unfold rowS
        rw [gd_app, gd_app, a.len, b.len]
        split
        · exact t.mono f u x hu hx n (Nat.le_refl _)
        · exact t.mono f u x hu hx i (by omega)
/-- the asked thing's words; l: which floors are full below -/
theorem askWs {n : Nat} {szs : List Int} {ws : List (List Int)} (t : TightWs n szs ws) (l : Nat → Int) (hl : ∀ f, f < szs.length → l f = 0 ∨ (l f = 1 ∧ 1 ≤ gd szs f)) (hd : ∀ f, f + 1 < szs.length → l (f + 1) ≤ l f) (ws' : List (List Int)) (hw' : ws'.length = ws.length) (he : ∀ f w, ws[f]? = some w → ws'[f]? = some (rowA (l f) w))
    (szs' : List Int) (hs' : szs'.length = szs.length) (hse : ∀ f, f < szs.length → gd szs' f = max 0 (gd szs f - l f) + 1) : TightWs (n + 1) szs' ws' := by
  refine ⟨by rw [hw', t.len, hs'], fun f w hw => ?_, fun f w v hw hv i hi => ?_⟩
  · have hf := (List.getElem?_eq_some_iff.mp hw).1
    obtain ⟨u, hu⟩ : ∃ u, ws[f]? = some u := ⟨_, List.getElem?_eq_getElem (by omega)⟩
    have e := he f u hu
    rw [hw] at e
    cases e
    have a := t.each f u hu
    have hfs : f < szs.length := by rw [← t.len]; omega
    have hlf := hl f hfs
    refine ⟨by simp [rowA, a.len], rfl, fun i hi => ?_, ?_⟩
    · cases i with
      | zero =>
        rw [rowA_gd (by rw [a.len]; omega), a.zero]
        show (0 : Int) ≤ _ ∧ _ ≤ (0 : Int) + 1
        omega
      | succ i =>
        rw [rowA_gd (by rw [a.len]; omega), rowA_gd (by rw [a.len]; omega)]
        have := a.step i (by omega)
        omega
    · rw [rowA_gd (by rw [a.len]; omega), a.last, hse f hfs]
  · have hf := (List.getElem?_eq_some_iff.mp hv).1
    obtain ⟨u, hu⟩ : ∃ u, ws[f]? = some u := ⟨_, List.getElem?_eq_getElem (by omega)⟩
    obtain ⟨x, hx⟩ : ∃ x, ws[f + 1]? = some x := ⟨_, List.getElem?_eq_getElem (by omega)⟩
    have e := he f u hu
    rw [hw] at e
    cases e
    have e := he _ x hx
    rw [hv] at e
    cases e
    have a := t.each f u hu
    have b := t.each _ x hx
    have hfs : f + 1 < szs.length := by rw [← t.len]; omega
    have l1 := hl f (by omega)
    have l2 := hl (f + 1) hfs
    have l3 := hd f hfs
    have s0 := t.sz0 f (by omega)
    have s1 := t.szm f hfs
    rw [hse f (by omega), hse (f + 1) hfs]
    cases i with
    | zero =>
      show (0 : Int) ≤ (0 : Int) ∧ (0 : Int) ≤ (0 : Int) + _
      omega
    | succ i =>
      rw [rowA_gd (by rw [a.len]; omega), rowA_gd (by rw [b.len]; omega)]
      have m := t.mono f u x hu hx i (by omega)
      have n1 := a.nn i (by omega)
      omega
theorem cutIf {l : List Int} {c : Nat} : cutD (l.map .int) (some (c : Int)) none = (l.drop c).map .int := by rw [cutD_from, ← List.map_drop]
theorem cutIl {l : List Int} {n : Nat} (h : l.length = n + 1) : cutD (l.map .int) (some (-1)) none = [.int (gd l n)] := by
  unfold cutD
  have e : HT.sIx (l.map PyData.int).length 0 (some (-1)) = n := by
    simp only [HT.sIx]
    rw [if_pos (by decide), List.length_map, h]
    omega
  rw [e, HT.sIx_none, List.length_map, h, ← List.map_drop, ← List.map_take]
  have : l.drop n = [gd l n] := by
    refine List.ext_getElem? fun i => ?_
    rw [List.getElem?_drop]
    cases i with
    | zero => rw [Nat.add_zero, getD_some (by omega)]; rfl
    | succ i => rw [List.getElem?_eq_none (by omega)]; rfl
  rw [this, show n + 1 - n = 1 by omega]
  rfl
theorem split_at {o : List Int} {p : Nat} {t : Int} (h : o[p]? = some t) : o = o.take p ++ t :: o.drop (p + 1) := by
  have := List.getElem?_eq_some_iff.mp h
  rw [← this.2, List.getElem_cons_drop, List.take_append_drop]
theorem perm_rest {o : List Int} {p : Nat} {t : Int} (h : o[p]? = some t) : (t :: (o.take p ++ o.drop (p + 1))).Perm o := by
  conv => rhs; rw [split_at h]
  exact List.perm_middle.symm
theorem idx_get {o : List Int} {t : Int} (h : t ∈ o) : o[o.idxOf t]? = some t := by
  have := List.idxOf_lt_length_of_mem h
  rw [List.getElem?_eq_getElem this, List.getElem_idxOf]
def lessN (found : Int) (f : Nat) : Int := if found ≤ f then 1 else 0
/-- which floors are full below found -/
noncomputable def fullN (h : House) (found : Int) (szs : List Int) (f : Nat) : Int := if (f : Int) < found ∧ gd szs f = cap h f then 1 else 0
section
variable {h : House} {k : Know} {found : Int} {szs : List Int} {ws : List (List Int)} {p : Nat} {t : Int}
theorem led_strike (hh : HOk h) (v : Vk h k) (hp : k.1[p]? = some t) (hl : szs.length = h.2.length) (hs : ∀ f, f < h.2.length → gd szs f = gd (ksz k) f - lessN found f) (ht : TightWs (h.1.toNat - 1) szs ws) :
    Vk h (k.1.take p ++ k.1.drop (p + 1) ++ [t], ws.map (rowS (h.1.toNat - 1))) := by
  have hpl := (List.getElem?_eq_some_iff.mp hp).1
  have hn := v.len
  have T := strikeWs ht
  have en : h.1.toNat - 1 + 1 = h.1.toNat := by omega
  rw [en] at T
  have e := ksz_eq (o := k.1.take p ++ k.1.drop (p + 1) ++ [t]) T
  have m0 := hh.m0
  refine ⟨?_, by show (ws.map _).length = _; rw [List.length_map, ht.len, hl], by rw [e]; exact T, ?_, fun f hf => ?_⟩
  · exact (List.perm_append_comm.trans (perm_rest hp)).trans v.perm
  · rw [e, hs 0 (by omega)]
    have := v.room0
    unfold lessN
    split <;> omega
  · rw [e, hs f (by omega), hs (f + 1) hf]
    have := v.room f hf
    unfold lessN
    split <;> split <;> omega
theorem led_ask (hh : HOk h) (v : Vk h k) (hp : k.1[p]? = some t) (hl : szs.length = h.2.length) (hs : ∀ f, f < h.2.length → gd szs f = gd (ksz k) f - lessN found f) (ht : TightWs (h.1.toNat - 1) szs ws)
    (ws' : List (List Int)) (hw' : ws'.length = ws.length) (he : ∀ f w, ws[f]? = some w → ws'[f]? = some (rowA (fullN h found szs f) w)) : Vk h (t :: (k.1.take p ++ k.1.drop (p + 1)), ws') := by
  have hpl := (List.getElem?_eq_some_iff.mp hp).1
  have hn := v.len
  have m0 := hh.m0
  have full1 : ∀ f, f < h.2.length → fullN h found szs f = 1 → (f : Int) < found ∧ gd (ksz k) f = cap h f ∧ gd szs f = gd (ksz k) f := fun f hf e => by
    unfold fullN at e
    split at e
    · rename_i c
      have a := hs f hf
      unfold lessN at a
      rw [if_neg (by omega)] at a
      exact ⟨c.1, by omega, by omega⟩
    · cases e
  have full0 : ∀ f, f < h.2.length → (f : Int) < found → fullN h found szs f = 0 → gd (ksz k) f < cap h f := fun f hf c e => by
    unfold fullN at e
    split at e
    · cases e
    · rename_i c2
      have a := hs f hf
      unfold lessN at a
      rw [if_neg (by omega)] at a
      have b := v.cap f hf
      have : ¬ gd szs f = cap h f := fun z => c2 ⟨c, z⟩
      omega
  have or01 : ∀ f, fullN h found szs f = 0 ∨ fullN h found szs f = 1 := fun f => by unfold fullN; split <;> simp
  have capge : ∀ f, f < h.2.length → 1 ≤ cap h f := fun f hf => by
    induction f with
    | zero =>
      rw [cap_zero hf]
      exact (hh.r0 _ (List.mem_of_getElem? (getD_some hf))).1
    | succ f ih =>
      rw [cap_succ hf]
      have := ih (by omega)
      have := (hh.r0 _ (List.mem_of_getElem? (getD_some hf))).1
      have e : gd h.2 (f + 1) = h.2.getD (f + 1) 0 := rfl
      omega
  have down : ∀ f, f + 1 < h.2.length → fullN h found szs (f + 1) ≤ fullN h found szs f := fun f hf => by
    rcases or01 (f + 1) with e | e
    · rcases or01 f with e2 | e2 <;> omega
    · obtain ⟨a, b, c⟩ := full1 (f + 1) hf e
      rcases or01 f with e2 | e2
      · have d := full0 f (by omega) (by omega) e2
        have r := v.room f hf
        rw [cap_succ hf] at b
        omega
      · omega
  let szs' : List Int := (List.range szs.length).map fun f => max 0 (gd szs f - fullN h found szs f) + 1
  have hse : ∀ f, f < szs.length → gd szs' f = max 0 (gd szs f - fullN h found szs f) + 1 := fun f hf => by
    refine gd_some ?_
    rw [List.getElem?_map, List.getElem?_range hf]
    rfl
  have T := askWs ht (fullN h found szs) (fun f hf => by
    rcases or01 f with e | e
    · exact .inl e
    · obtain ⟨a, b, c⟩ := full1 f (by omega) e
      have := capge f (by omega)
      exact .inr ⟨e, by omega⟩) (fun f hf => down f (by omega)) ws' hw' he szs' (by simp [szs']) hse
  have en : h.1.toNat - 1 + 1 = h.1.toNat := by omega
  rw [en] at T
  have e := ksz_eq (o := t :: (k.1.take p ++ k.1.drop (p + 1))) T
  refine ⟨(perm_rest hp).trans v.perm, by show ws'.length = _; rw [hw', ht.len, hl], by rw [e]; exact T, ?_, fun f hf => ?_⟩
  · rw [e, hse 0 (by omega)]
    have s0 := ht.sz0 0 (by omega)
    have r0 := v.room0
    have a := hs 0 (by omega)
    unfold lessN at a
    rcases or01 0 with e2 | e2
    · rw [e2]
      by_cases c : (0 : Int) < found
      · have b := full0 0 (by omega) c e2
        rw [cap_zero (by omega)] at b
        rw [if_neg (by omega)] at a
        omega
      · rw [if_pos (by omega)] at a
        omega
    · obtain ⟨x, y, z⟩ := full1 0 (by omega) e2
      have := capge 0 (by omega)
      omega
  · rw [e, hse f (by omega), hse (f + 1) (by omega)]
    have s0 := ht.sz0 f (by omega)
    have s1 := ht.szm f (by omega)
    have r := v.room f hf
    have a := hs f (by omega)
    have b := hs (f + 1) hf
    unfold lessN at a b
    rcases or01 f with e1 | e1 <;> rcases or01 (f + 1) with e2 | e2
    · rw [e1, e2]
      split at a <;> split at b <;> omega
    · have := down f hf
      omega
    · obtain ⟨x, y, z⟩ := full1 f (by omega) e1
      have cg := capge f (by omega)
      rw [e1, e2]
      by_cases c : ((f + 1 : Nat) : Int) < found
      · have d := full0 (f + 1) hf c e2
        rw [cap_succ hf] at d
        rw [if_neg (by omega)] at a b
        omega
      · rw [if_neg (by omega)] at a
        rw [if_pos (by omega)] at b
        omega
    · obtain ⟨x, y, z⟩ := full1 f (by omega) e1
      obtain ⟨x2, y2, z2⟩ := full1 (f + 1) hf e2
      have cg := capge f (by omega)
      rw [e1, e2]
      omega
end
abbrev C_law_led : Ct := ⟨House × Know × LogE, fun a => [hD a.1, kD a.2.1, logD a.2.2], fun a => HOk a.1 ∧ Vk a.1 a.2.1 ∧ LogOk a.1 a.2.2, fun a d => d = .none ∨ ∃ k, d = kD k ∧ Vk a.1 k⟩
theorem d_law_led {K : PySem.W.Frag} : DOk (t__law_led K (spP C_law_tightened) (spP C_known_sizes)) C_law_led n__law_led 3 := by
  rintro ⟨⟨n, rooms⟩, ⟨o, ws⟩, ⟨sb, t, found⟩⟩ ⟨hh, hv, hlog⟩ M
  have hh : HOk (n, rooms) := hh
  have hv : Vk (n, rooms) (o, ws) := hv
  obtain ⟨t0, t1, f0, f1⟩ := hlog
  have t0 : 0 ≤ t := t0
  have t1 : t < n := t1
  have hk := hv.kok hh
  have ho : o.length = n.toNat := hv.len
  have n1 : n ≤ 16 := hh.n1
  have m0 : 1 ≤ rooms.length := hh.m0
  have m1 : rooms.length ≤ 4 := hh.m1
  have hnf : ws.length = rooms.length := hv.nf
  have hszl : (ksz (o, ws)).length = rooms.length := hv.szl
  have hto : t ∈ o := hv.perm.symm.subset (rgI_mem.mpr ⟨t0, t1⟩)
  have hp := idx_get hto
  generalize hpe : o.idxOf t = p at hp
  have hpl := (List.getElem?_eq_some_iff.mp hp).1
  have hwl : ∀ w ∈ ws, w.length = n.toNat + 1 := fun w hw => by have : w.length = o.length + 1 := hk.len w hw; omega
  show SS M (t__law_led K _ _) [.dat (hD (n, rooms)), .dat (kD (o, ws)), .dat (.tuple [.str (wordS sb), .int t, .int found]), .no, .no, .no, .no, .no, .no, .no, .no, .no, .no, .no, .no, .no, .no, .no, .no, .no] _ _
  unfold t__law_led
  try with_reducible refine ss_seq ?_
  refine ss_asg (is := [3, 4]) ?_
  repeat bv_omega
  dsimp only [List.set]
  try with_reducible refine ss_seq ?_
  refine ss_asg (is := [5, 6, 7]) ?_
  repeat bv_omega
  dsimp only [List.set]
  try with_reducible refine ss_seq ?_
  refine ss_par3 (by simp) (by simp) (by simp) (by decide) (by decide) (by decide) ?_
  refine ws_dat ?_
  repeat bv_omega
  refine ⟨hto, ?_⟩
  rw [hpe]
  refine ws_own (wl_list ?_)
  repeat bv_omega
  refine callOk (o, ws) rfl ⟨hk.sw, hk.ne⟩ ?_
  rintro d rfl
  repeat bv_omega
  refine ws_own (wl_lst ?_)
  repeat bv_omega
  refine ws_nil ⟨_, _, _, rfl, ?_⟩
  dsimp only [List.set]
  generalize hsz : ksz (o, ws) = sz at *
  try with_reducible refine ss_seq ?_
  with_reducible refine ss_forL [11, 12] ?_
  repeat bv_omega
  let S : List (List Int) × List Int → List SD := fun y => [.dat (hD (n, rooms)), .dat (kD (o, ws)), .dat (.tuple [.str (wordS sb), .int t, .int found]), .dat (tI o), .dat (wsD ws), .dat (.str (wordS sb)), .dat (.int t), .dat (.int found), .dat (.int (p : Nat)), .own (y.2.map .int), .own (y.1.map tI), .no, .no, .no, .no, .no, .no, .no, .no, .no]
  refine forOkE (β := List (List Int) × List Int) ws.zipIdx _ (enD_map0 ws tI) S (fun i y => y.1.length = i ∧ (∀ r ∈ y.1, r.length = n.toNat) ∧ y.2.length = rooms.length ∧ ∀ f, f < rooms.length → gd y.2 f = gd sz f - (if f < i then lessN found f else 0)) ([], sz) ⟨rfl, (fun r h => by cases h), hszl, fun f hf => by simp⟩ (Le.refl _) (fun i ⟨w, i'⟩ y hi Φ => ?_) fun y Φ => ?_
  · obtain ⟨hi, rfl⟩ := zi hi
    obtain ⟨rows, sz2⟩ := y
    obtain ⟨p1, p2, p3, p4⟩ := Φ
    have p1 : rows.length = i' := p1
    have p3 : sz2.length = rooms.length := p3
    have p4 : ∀ f, f < rooms.length → gd sz2 f = gd sz f - (if f < i' then lessN found f else 0) := p4
    have hil := (List.getElem?_eq_some_iff.mp hi).1
    have hww := hwl w (List.mem_of_getElem? hi)
    dsimp only [prD, S]
    repeat bv_omega
    dsimp only [List.set]
    try with_reducible refine ss_seq ?_
    refine ss_set ?_
    repeat bv_omega
    have hles : (if decide (found ≤ (i' : Int)) = true then (1 : Int) else 0) = lessN found i' := by unfold lessN; simp
    rw [hles]
    generalize hle : lessN found i' = le
    dsimp only [List.set]
    try with_reducible refine ss_seq ?_
    refine ss_set (we_of_wl (wl_lcL ?_))
    repeat bv_omega
    rw [show (p : Int) + 1 = ((p + 1 : Nat) : Int) by omega, cutIf]
    refine lcOkM (w.drop (p + 1)) .int rfl (fun x => .int (x - le)) (sm_lt (by simp; omega)) (fun j x hx => ?_) ?_
    · dsimp only [wipeD, List.set]
      repeat bv_omega
      refine ⟨rfl, ?_⟩
      repeat bv_omega
    have elat : (w.drop (p + 1)).map (fun x => PyData.int (x - le)) = ((w.drop (p + 1)).map fun x => x - le).map .int := by rw [List.map_map]; rfl
    rw [elat]
    generalize hlat : (w.drop (p + 1)).map (fun x => x - le) = lat
    have hlatl : lat.length = n.toNat - p := by rw [← hlat]; simp; omega
    dsimp only [List.set]
    try with_reducible refine ss_seq ?_
    refine ss_append rfl ?_
    repeat bv_omega
    refine we_of_wl (wl_list ?_)
    repeat bv_omega
    rw [cutIu]
    repeat bv_omega
    refine dIx_tin (by omega) ?_
    repeat bv_omega
    refine dIx_list (d := .int (gd lat 0)) (atI_get 0 rfl (by omega)) ?_
    repeat bv_omega
    refine dAdd_list (by rw [sizeLine_eq]; simp; omega) ?_
    repeat bv_omega
    rw [show (1 : Int) = ((1 : Nat) : Int) by rfl, cutIf]
    refine dAdd_list (by rw [sizeLine_eq]; simp; omega) ?_
    have er : (w.take p).map PyData.int ++ [PyData.int (max (w.getD p 0) (gd lat 0))] ++ (lat.drop 1).map PyData.int = (w.take p ++ [max (w.getD p 0) (gd lat 0)] ++ lat.drop 1).map .int := by simp
    rw [er]
    have hrl : (w.take p ++ [max (w.getD p 0) (gd lat 0)] ++ lat.drop 1).length = n.toNat := by simp; omega
    generalize (w.take p ++ [max (w.getD p 0) (gd lat 0)] ++ lat.drop 1) = r at hrl
    repeat bv_omega
    refine ⟨sm_lt (by simp; omega), ?_⟩
    dsimp only [List.set]
    refine ss_augItem rfl ?_
    repeat bv_omega
    refine ⟨i', gd sz2 i', rfl, by rw [List.getElem?_map, getD_some (by omega)]; rfl, ?_⟩
    repeat bv_omega
    dsimp only [List.set]
    rw [set_map]
    refine ⟨(rows ++ [r], sz2.set i' (gd sz2 i' - le)), ⟨by simp; omega, fun x hx => ?_, by rw [List.length_set]; exact p3, fun f hf => ?_⟩, by simp only [S, List.map_append]; symm_saturate⟩
    · rcases List.mem_append.mp hx with z | z
      · exact p2 x z
      · simp at z
        subst z
        exact hrl
    · show gd (sz2.set i' (gd sz2 i' - le)) f = _
      rw [gd_set (by omega)]
      have a := p4 f hf
      split
      · rename_i e
        subst e
        rw [if_neg (Nat.lt_irrefl _)] at a
        rw [if_pos (Nat.lt_succ_self _), hle]
        omega
      · rename_i e
        by_cases c : f < i'
        · rw [if_pos c] at a
          rw [if_pos (by omega)]
          exact a
        · rw [if_neg c] at a
          rw [if_neg (by omega)]
          exact a
  · obtain ⟨rows, szs⟩ := y
    obtain ⟨p1, p2, p3, p4⟩ := Φ
    rw [List.length_zipIdx, hnf] at p1 p4
    have p1 : rows.length = rooms.length := p1
    have p3 : szs.length = rooms.length := p3
    have p4 : ∀ f, f < rooms.length → gd szs f = gd sz f - lessN found f := fun f hf => by
      have := p4 f hf
      rw [if_pos hf] at this
      exact this
    dsimp only [S]
    try with_reducible refine ss_seq ?_
    refine ss_set ?_
    repeat bv_omega
    refine callOk (rows, szs, n.toNat - 1) rfl ⟨by show rows ≠ []; intro e; rw [e] at p1; simp at p1; omega, by show rows.length = szs.length; omega, by show rows.length ≤ 100; omega, by show n.toNat - 1 ≤ 100; omega, fun r hr => by show r.length = n.toNat - 1 + 1; rw [p2 r hr]; omega⟩ ?_
    rintro d (⟨rfl, _⟩ | ⟨tw, rfl, ht⟩)
    · dsimp only [List.set]
      try with_reducible refine ss_seq ?_
      with_reducible refine ss_if ?_
      repeat bv_omega
      refine ⟨rfl, true, rfl, fun _ => ?_, (fun z => nomatch z)⟩
      repeat bv_omega
      exact .inl rfl
    have ht : TightWs (n.toNat - 1) szs tw := ht
    have htl : tw.length = rooms.length := by rw [ht.len, p3]
    dsimp only [List.set]
    try with_reducible refine ss_seq ?_
    with_reducible refine ss_if ?_
    repeat bv_omega
    refine ⟨rfl, false, rfl, (fun z => nomatch z), fun _ => ?_⟩
    repeat bv_omega
    refine ss_set ?_
    repeat bv_omega
    rw [cutIu, show (p : Int) + 1 = ((p + 1 : Nat) : Int) by omega, cutIf]
    refine dAdd_tup (by rw [sizeLine_eq]; simp; omega) ?_
    rw [← List.map_append]
    generalize hrest : o.take p ++ o.drop (p + 1) = rest
    have hrl : rest.length + 1 = n.toNat := by rw [← hrest]; simp; omega
    dsimp only [List.set]
    try with_reducible refine ss_seq ?_
    with_reducible refine ss_if ?_
    repeat bv_omega
    refine dEq_str (by cases sb <;> decide +kernel) (by decide +kernel) ?_
    repeat bv_omega
    refine ⟨fun _ => ?_, fun _ => ?_⟩
    · repeat bv_omega
      refine dAdd_tup (ys := [.int t]) (by rw [sizeLine_eq]; simp; omega) ?_
      repeat bv_omega
      refine lcOkM tw tI rfl (fun w => tI (rowS (n.toNat - 1) w)) (sm_lt (by omega)) (fun j w hw => ?_) ?_
      · have hwl2 := (ht.each j w hw).len
        dsimp only [wipeD, List.set]
        repeat bv_omega
        refine ⟨rfl, ?_⟩
        repeat bv_omega
        rw [cutIl hwl2]
        refine dAdd_tup (by rw [sizeLine_eq]; simp; omega) ?_
        simp [rowS]
      · repeat bv_omega
        refine .inr ⟨(rest ++ [t], tw.map (rowS (n.toNat - 1))), by simp [Function.comp_def], ?_⟩
        have := led_strike (found := found) hh hv hp (by show szs.length = rooms.length; exact p3) (fun f hf => by rw [hsz]; exact p4 f hf) ht
        rw [← hrest]
        exact this
    · repeat bv_omega
      refine ss_setL (wl_lst ?_)
      repeat bv_omega
      dsimp only [List.set]
      try with_reducible refine ss_seq ?_
      with_reducible refine ss_forL [11, 12] ?_
      repeat bv_omega
      refine forOkE (β := List (List Int)) tw.zipIdx _ (enD_map0 tw tI) (fun y => [.dat (hD (n, rooms)), .dat (kD (o, ws)), .dat (.tuple [.str (wordS sb), .int t, .int found]), .dat (tI o), .dat (wsD ws), .dat (.str (wordS sb)), .dat (.int t), .dat (.int found), .dat (.int (p : Nat)), .own (szs.map .int), .own (rows.map tI), .no, .no, .no, .no, .dat (wsD tw), .dat (tI rest), .own (y.map tI), .no, .no]) (fun i y => y.length = i ∧ ∀ f w, f < i → tw[f]? = some w → y[f]? = some (rowA (fullN (n, rooms) found szs f) w)) [] ⟨rfl, fun f w h => absurd h (Nat.not_lt_zero _)⟩ (by symm_saturate) (fun i ⟨w, i'⟩ y hi Φ => ?_) fun y Φ => ?_
      · obtain ⟨hi, rfl⟩ := zi hi
        obtain ⟨q1, q2⟩ := Φ
        have hil := (List.getElem?_eq_some_iff.mp hi).1
        have hwl2 := (ht.each i' w hi).len
        dsimp only [prD]
        repeat bv_omega
        dsimp only [List.set]
        try with_reducible refine ss_seq ?_
        refine ss_set (we_imp (R' := fun d => ∃ b, d = .bool b ∧ (b = true ↔ ((i' : Int) < found ∧ gd szs i' = cap (n, rooms) i'))) ?_ ?_)
        · repeat bv_omega
          refine ⟨fun c => ?_, fun c => ?_⟩
          · have c : (i' : Int) < found := of_decide_eq_true c
            repeat bv_omega
            refine ⟨_, _, rfl, atI_get i' rfl (by omega), ?_⟩
            repeat bv_omega
            rw [show (i' : Int) + 1 = ((i' + 1 : Nat) : Int) by omega, cutIu]
            refine isInts_tup ?_
            repeat bv_omega
            refine ⟨fun z => ⟨c, of_decide_eq_true z⟩, fun z => decide_eq_true z.2⟩
          · have c : ¬ (i' : Int) < found := of_decide_eq_false c
            repeat bv_omega
            exact ⟨(fun z => nomatch z), fun z => absurd z.1 c⟩
        rintro d ⟨b, rfl, hb⟩
        have hbl : (if b = true then (1 : Int) else 0) = fullN (n, rooms) found szs i' := by
          unfold fullN
          by_cases z : b = true
          · rw [if_pos z, if_pos (hb.mp z)]
          · rw [if_neg z, if_neg fun q => z (hb.mpr q)]
        dsimp only [List.set]
        refine ss_append rfl ?_
        repeat bv_omega
        refine lcOkM w .int rfl (fun x => .int (max 0 (x - fullN (n, rooms) found szs i') + 1)) (sm_lt (by omega)) (fun j x hx => ?_) ?_
        · dsimp only [wipeD, List.set]
          repeat bv_omega
          refine ⟨rfl, ?_⟩
          repeat bv_omega
          rw [hbl]
        · repeat bv_omega
          refine dAdd_tup (xs := [.int 0]) (by rw [sizeLine_eq]; simp; omega) ?_
          refine ⟨sm_lt (by simp; omega), ?_⟩
          dsimp only [List.set]
          refine ⟨y ++ [rowA (fullN (n, rooms) found szs i') w], ⟨by simp; omega, fun f x hf hx => ?_⟩, ?_⟩
          · by_cases e : f = i'
            · subst e
              rw [hi] at hx
              cases hx
              rw [List.getElem?_append_right (by omega), q1, Nat.sub_self]
              rfl
            · rw [List.getElem?_append_left (by omega)]
              exact q2 f x (by omega) hx
          · have e : tI (rowA (fullN (n, rooms) found szs i') w) = .tuple ([.int 0] ++ w.map fun x => .int (max 0 (x - fullN (n, rooms) found szs i') + 1)) := by simp [rowA]
            rw [List.map_append, List.map_singleton, e]
            symm_saturate
      · obtain ⟨q1, q2⟩ := Φ
        rw [List.length_zipIdx] at q1 q2
        repeat bv_omega
        refine dAdd_tup (xs := [.int t]) (by rw [sizeLine_eq]; simp; omega) ?_
        repeat bv_omega
        refine .inr ⟨(t :: rest, y), by simp, ?_⟩
        have := led_ask (found := found) hh hv hp (by show szs.length = rooms.length; exact p3) (fun f hf => by rw [hsz]; exact p4 f hf) ht y q1 (fun f w hw => q2 f w (List.getElem?_eq_some_iff.mp hw).1 hw)
        rw [← hrest]
        exact this

end
section
/-! FkH1: knowledges. -/
variable {T : Addr × Str} {K : PySem.W.Frag}
abbrev C_law_led_by : Ct := ⟨House × Know × List LogE, fun a => [hD a.1, kD a.2.1, .tuple (a.2.2.map logD)], fun a => HOk a.1 ∧ Vk a.1 a.2.1 ∧ (∀ e ∈ a.2.2, LogOk a.1 e) ∧ a.2.2.length ≤ 1000, fun a d => ∃ (k : Know) (x : D), d = .tuple [kD k, x] ∧ Vk a.1 k⟩
theorem d_law_led_by : DOk (t__law_led_by K (spP C_law_led)) C_law_led_by n__law_led_by 3 := by
  rintro ⟨⟨n, rooms⟩, k, logs⟩ ⟨hh, hv, hl, h1⟩ M
  have hh : HOk (n, rooms) := hh
  have hv : Vk (n, rooms) k := hv
  have hl : ∀ e ∈ logs, LogOk (n, rooms) e := hl
  show SS M (t__law_led_by K _) [.dat (hD (n, rooms)), .dat (kD k), .dat (.tuple (logs.map logD)), .no, .no, .no] _ _
  unfold t__law_led_by
  try with_reducible refine ss_seq ?_
  with_reducible refine ss_forL [3, 4] ?_
  repeat bv_omega
  refine forOkE (β := Know) logs.zipIdx _ (enD_map0 logs logD) (fun y => [.dat (hD (n, rooms)), .dat (kD y), .dat (.tuple (logs.map logD)), .no, .no, .no]) (fun _ y => Vk (n, rooms) y) k hv (Le.refl _) (fun i ⟨e, i'⟩ y hi Φ => ?_) fun y Φ => ?_
  · obtain ⟨hi, rfl⟩ := zi hi
    dsimp only [prD]
    repeat bv_omega
    dsimp only [List.set]
    try with_reducible refine ss_seq ?_
    refine ss_set ?_
    repeat bv_omega
    refine callOk ((n, rooms), y, e) rfl ⟨hh, Φ, hl e (List.mem_of_getElem? hi)⟩ ?_
    rintro d (rfl | ⟨k', rfl, hv'⟩)
    · dsimp only [List.set]
      try with_reducible refine ss_seq ?_
      with_reducible refine ss_if ?_
      repeat bv_omega
      refine ⟨rfl, true, rfl, fun _ => ?_, (fun z => nomatch z)⟩
      repeat bv_omega
      try exact ⟨y, _, rfl, Φ⟩
    · dsimp only [List.set]
      try with_reducible refine ss_seq ?_
      with_reducible refine ss_if ?_
      repeat bv_omega
      refine ⟨rfl, false, rfl, (fun z => nomatch z), fun _ => ?_⟩
      repeat bv_omega
      refine ss_set ?_
      repeat bv_omega
      dsimp only [List.set]
      exact ⟨k', hv', by symm_saturate⟩
  · repeat bv_omega
    try exact ⟨y, _, rfl, Φ⟩
abbrev C_law_first_known : Ct := ⟨House × D, fun a => [hD a.1, a.2], fun a => HOk a.1 ∧ StartOk a.1 a.2, fun a d => ∃ k : Know, d = kD k ∧ Vk a.1 k⟩
abbrev C_law_known : Ct := ⟨House × Int × Int, fun a => [hD a.1, .int a.2.1, .int a.2.2], fun a => HOk a.1 ∧ 0 ≤ a.2.1 ∧ a.2.1 ≤ 1000 ∧ 0 ≤ a.2.2 ∧ a.2.2 ≤ 1000, fun a d => ∃ (k : Know) (x y : D), d = .tuple [x, y, kD k] ∧ Vk a.1 k⟩
theorem d_law_known : DOkB T (t__law_known K (spT T C_law_first_known) (spP C_law_led_by) (spB T C_law_take) (spB T C_law_one) (spB T C_law_story) (spB T C_law_start)) C_law_known n__law_known 4 := by
  rintro ⟨⟨n, rooms⟩, many, strikes⟩ ⟨hh, h0, h1, h2, h3⟩ M hT
  have hh : HOk (n, rooms) := hh
  have h0 : 0 ≤ many := h0
  have h1 : many ≤ 1000 := h1
  show SS M (t__law_known K _ _ _ _ _ _) [.bag, .dat (hD (n, rooms)), .dat (.int many), .dat (.int strikes), .no, .no, .no, .no] _ _
  unfold t__law_known
  try with_reducible refine ss_seq ?_
  refine ss_set ?_
  repeat bv_omega
  refine callOk (n, rooms) rfl hh ?_
  intro start hst
  dsimp only [List.set]
  try with_reducible refine ss_seq ?_
  refine ss_asg (is := [5, 6, 7]) ?_
  repeat bv_omega
  refine callOk (many + 1) rfl ⟨by omega, by omega⟩ ?_
  rintro d ⟨v, rfl, v0, v1⟩
  have v1 : v < many + 1 := v1
  repeat bv_omega
  refine callOk [.int many, .int v, .int 0, .int many] rfl ⟨by simp, by simp⟩ ?_
  intro d hd
  obtain ⟨m, rfl, m0, m1⟩ : ∃ m : Int, d = .int m ∧ 0 ≤ m ∧ m ≤ 1000 := by
    simp only [List.mem_cons, List.mem_nil_iff, or_false] at hd
    rcases hd with rfl | rfl | rfl | rfl
    · exact ⟨_, rfl, h0, h1⟩
    · exact ⟨_, rfl, v0, by omega⟩
    · exact ⟨_, rfl, by decide⟩
    · exact ⟨_, rfl, h0, h1⟩
  repeat bv_omega
  refine callOk ((n, rooms), start, m, strikes) rfl ⟨hh, hst, m0, m1, h2, h3⟩ ?_
  rintro d ⟨x, logs, y, rfl, hl, hll⟩
  repeat bv_omega
  dsimp only [List.set]
  repeat bv_omega
  refine callOk ((n, rooms), start) rfl ⟨hh, hst⟩ ?_
  rintro d ⟨k, rfl, hk⟩
  repeat bv_omega
  refine callOk ((n, rooms), k, logs) rfl ⟨hh, hk, hl, hll⟩ ?_
  rintro d ⟨k', x', rfl, hk'⟩
  repeat bv_omega
  exact ⟨k', _, _, rfl, hk'⟩
/-! sizes -/
structure SzOk (h : House) (szs : List Int) : Prop where
  len : szs.length = h.2.length
  rng : ∀ s ∈ szs, 0 ≤ s ∧ s ≤ h.1
  mono : ∀ f, f + 1 < szs.length → gd szs f ≤ gd szs (f + 1)
  room0 : gd szs 0 ≤ gd h.2 0
  room : ∀ f, f + 1 < h.2.length → gd szs (f + 1) - gd szs f ≤ gd h.2 (f + 1)
theorem Vk.sz {h : House} {k : Know} (hh : HOk h) (v : Vk h k) : SzOk h (ksz k) := by
  have hn := hh.n0
  refine ⟨v.szl, fun s hs => ?_, fun f hf => v.tight.szm f hf, v.room0, v.room⟩
  obtain ⟨f, hf⟩ := List.getElem?_of_mem hs
  have hfl := (List.getElem?_eq_some_iff.mp hf).1
  obtain ⟨w, hw⟩ : ∃ w, k.2[f]? = some w := ⟨_, List.getElem?_eq_getElem (by rw [v.tight.len]; exact hfl)⟩
  have t := v.tight.each f w hw
  have e := gd_some hf
  rw [← e]
  refine ⟨v.tight.sz0 f hfl, ?_⟩
  rw [← t.last]
  have : ∀ i, i ≤ h.1.toNat → gd w i ≤ i := fun i => by
    induction i with
    | zero => intro _; rw [t.zero]; exact Int.le_refl _
    | succ i ih => intro hi; have a := ih (by omega); have b := t.step i (by omega); omega
  have := this _ (Nat.le_refl _)
  omega
theorem Vk.of {h : House} {o : List Int} {szs : List Int} {ws : List (List Int)} (hp : o.Perm (rgI h.1)) (s : SzOk h szs) (t : TightWs h.1.toNat szs ws) : Vk h (o, ws) := by
  have e := ksz_eq (o := o) t
  refine ⟨hp, by show ws.length = _; rw [t.len, s.len], by rw [e]; exact t, by rw [e]; exact s.room0, by rw [e]; exact s.room⟩
def zrows (m n : Nat) : List (List Int) := List.replicate m (List.replicate (n + 1) 0)
theorem zrows_ok {h : House} {szs : List Int} (hh : HOk h) (s : SzOk h szs) : ZeroOk h.1.toNat (zrows szs.length h.1.toNat) szs := by
  have hn := hh.n0
  refine ⟨fun row hr i => ?_, fun x hx => ?_, s.mono⟩
  · rw [List.eq_of_mem_replicate hr]
    unfold gd
    rw [List.getD_eq_getElem?_getD, List.getElem?_replicate]
    split <;> rfl
  · have := s.rng x hx
    omega
theorem zrows_ne {m n : Nat} (h : 0 < m) : zrows m n ≠ [] := by
  intro e
  have := congrArg List.length e
  unfold zrows at this
  rw [List.length_replicate, List.length_nil] at this
  omega
theorem zrows_D (m n : Nat) : wsD (zrows m n) = .tuple (List.replicate m (.tuple (List.replicate (n + 1) (.int 0)))) := by simp [zrows]
theorem cnt_mono (st : List Int) {f g : Int} (h : f ≤ g) : cnt st f ≤ cnt st g := by
  unfold cnt
  have := List.countP_mono_left (l := st) (p := fun p => decide (p ≤ f)) (q := fun p => decide (p ≤ g)) (fun x _ hx => by simp only [decide_eq_true_eq] at *; omega)
  omega
theorem cnt_step (st : List Int) (f : Int) : cnt st (f + 1) = cnt st f + (st.count (f + 1) : Nat) := by
  unfold cnt
  induction st with
  | nil => rfl
  | cons x st ih =>
    rw [List.countP_cons, List.countP_cons, List.count_cons]
    simp only [decide_eq_true_eq, beq_iff_eq]
    split <;> split <;> split <;> omega
theorem StOk.sz {h : House} {st : List Int} (hh : HOk h) (s : StOk h st) : SzOk h (sizesL h.2.length st) := by
  have m0 := hh.m0
  have hg : ∀ f, f < h.2.length → gd (sizesL h.2.length st) f = cnt st (f : Nat) := fun f hf => by
    refine gd_some ?_
    unfold sizesL
    rw [List.getElem?_map, List.getElem?_range hf]
    rfl
  refine ⟨by simp [sizesL], fun x hx => ?_, fun f hf => ?_, ?_, fun f hf => ?_⟩
  · obtain ⟨f, _, rfl⟩ := List.mem_map.mp hx
    have := List.countP_le_length (p := fun p => decide (p ≤ ((f : Nat) : Int))) (l := st)
    have hl := s.len
    unfold cnt
    omega
  · simp [sizesL] at hf
    rw [hg f (by omega), hg (f + 1) hf]
    exact cnt_mono st (by omega)
  · rw [hg 0 (by omega)]
    have := s.rooms 0 (gd h.2 0) (getD_some (by omega))
    have e : cnt st ((0 : Nat) : Int) = (st.count ((0 : Nat) : Int) : Nat) := by
      unfold cnt
      congr 1
      rw [List.count_eq_countP]
      refine List.countP_congr fun x hx => ?_
      have := (s.rng x hx).1
      simp
      omega
    omega
  · rw [hg f (by omega), hg (f + 1) hf]
    have := s.rooms (f + 1) (gd h.2 (f + 1)) (getD_some hf)
    have e := cnt_step st (f : Int)
    have e2 : ((f + 1 : Nat) : Int) = (f : Int) + 1 := by omega
    rw [e2] at this ⊢
    omega
theorem perm_rg {n : Int} {ys : List D} (h : ys.Perm (rgD 0 n.toNat)) : ∃ o : List Int, ys = o.map PyData.int ∧ o.Perm (rgI n) := by
  rw [rgD_ints] at h
  exact perm_ints h
/-! _law_tight_known -/
abbrev C_know : Ct := ⟨House, fun h => [hD h], fun h => HOk h, fun h d => ∃ k : Know, d = kD k ∧ Vk h k⟩
theorem d_law_tight_known : DOkB T (t__law_tight_known K (spP C_law_tightened) (spB T C_law_take) (spB T C_law_one) (spB T C_law_mixed)) C_know n__law_tight_known 2 := by
  rintro ⟨n, rooms⟩ hh M hT
  have hh : HOk (n, rooms) := hh
  have n0 : 0 ≤ n := hh.n0
  have n1 : n ≤ 16 := hh.n1
  have m0 : 1 ≤ rooms.length := hh.m0
  have m1 : rooms.length ≤ 4 := hh.m1
  have hr0 : ∀ r ∈ rooms, 1 ≤ r ∧ r ≤ 12 := hh.r0
  show SS M (t__law_tight_known K _ _ _ _) [.bag, .dat (hD (n, rooms)), .no, .no, .no, .no, .no, .no, .no, .no, .no, .no] _ _
  unfold t__law_tight_known
  try with_reducible refine ss_seq ?_
  refine ss_tup (n := 3) (is := [2, 3, 4]) rfl ?_ ?_ ?_
  · simp [sizeLine_eq]
  · simp
  refine ws_dat ?_
  repeat bv_omega
  refine we_of_wl (wl_listRg ?_)
  repeat bv_omega
  refine ⟨by show 0 ≤ n ∧ n ≤ _; omega, ?_⟩
  repeat bv_omega
  refine callOk (rgD 0 n.toNat) rfl (by show (rgD 0 n.toNat).length ≤ 100000; rw [rgD_len]; omega) ?_
  rintro d ⟨ys, rfl, hys⟩
  obtain ⟨o, rfl, ho⟩ := perm_rg hys
  repeat bv_omega
  refine ws_own (wl_lst ?_)
  repeat bv_omega
  refine ws_dat ?_
  repeat bv_omega
  refine ws_nil ⟨rfl, ?_⟩
  dsimp only [setAll, List.set]
  try with_reducible refine ss_seq ?_
  with_reducible refine ss_forL [5] ?_
  repeat bv_omega
  refine forOkE (β := List Int × Int) rooms .int rfl (fun y => [.bag, .dat (hD (n, rooms)), .dat (tI o), .own (y.1.map .int), .dat (.int y.2), .no, .no, .no, .no, .no, .no, .no]) (fun i y => y.1.length = i ∧ 0 ≤ y.2 ∧ y.2 ≤ n ∧ (i = 0 → y.2 = 0) ∧ (∀ j, i = j + 1 → gd y.1 j = y.2) ∧ (∀ f, f < i → 0 ≤ gd y.1 f ∧ gd y.1 f ≤ n) ∧ (∀ f, f + 1 < i → gd y.1 f ≤ gd y.1 (f + 1) ∧ gd y.1 (f + 1) - gd y.1 f ≤ gd rooms (f + 1)) ∧ (0 < i → gd y.1 0 ≤ gd rooms 0)) ([], 0)
    ⟨rfl, Int.le_refl _, n0, fun _ => rfl, (fun j h => by cases h), (fun f h => by cases h), (fun f h => by cases h), fun h => by cases h⟩ (Le.refl _) (fun i r y hi Φ => ?_) fun y Φ => ?_
  · obtain ⟨acc, sz⟩ := y
    obtain ⟨p1, p2, p3, p4, p5, p6, p7, p8⟩ := Φ
    have p1 : acc.length = i := p1
    have p2 : 0 ≤ sz := p2
    have p3 : sz ≤ n := p3
    have p4 : i = 0 → sz = 0 := p4
    have p5 : ∀ j, i = j + 1 → gd acc j = sz := p5
    have p6 : ∀ f, f < i → 0 ≤ gd acc f ∧ gd acc f ≤ n := p6
    have p7 : ∀ f, f + 1 < i → gd acc f ≤ gd acc (f + 1) ∧ gd acc (f + 1) - gd acc f ≤ gd rooms (f + 1) := p7
    have p8 : 0 < i → gd acc 0 ≤ gd rooms 0 := p8
    have hil := (List.getElem?_eq_some_iff.mp hi).1
    have hr := hr0 r (List.mem_of_getElem? hi)
    have hri : gd rooms i = r := gd_some hi
    repeat bv_omega
    dsimp only [List.set]
    try with_reducible refine ss_seq ?_
    refine ss_set ?_
    repeat bv_omega
    refine callOk (r + 1) rfl ⟨by omega, by omega⟩ ?_
    rintro d ⟨v, rfl, v0, v1⟩
    have v1 : v < r + 1 := v1
    repeat bv_omega
    refine callOk [.int r, .int r, .int v] rfl ⟨by simp, by simp⟩ ?_
    intro d hd
    obtain ⟨x, rfl, x0, x1⟩ : ∃ x : Int, d = .int x ∧ 0 ≤ x ∧ x ≤ r := by
      simp only [List.mem_cons, List.mem_nil_iff, or_false] at hd
      rcases hd with rfl | rfl | rfl
      · exact ⟨_, rfl, by omega, by omega⟩
      · exact ⟨_, rfl, by omega, by omega⟩
      · exact ⟨_, rfl, v0, by omega⟩
    repeat bv_omega
    generalize hs2 : min n (sz + x) = s2
    dsimp only [List.set]
    refine ss_append rfl ?_
    repeat bv_omega
    refine ⟨sm_lt (by simp; omega), ?_⟩
    dsimp only [List.set]
    refine ⟨(acc ++ [s2], s2), ⟨by simp; omega, by show 0 ≤ s2; omega, by show s2 ≤ n; omega, (fun h => by omega), fun j hj => ?_, fun f hf => ?_, fun f hf => ?_, fun _ => ?_⟩, by simp only [List.map_append]; symm_saturate⟩
    · show gd (acc ++ [s2]) j = s2
      rw [gd_app, if_pos (by omega)]
    · show 0 ≤ gd (acc ++ [s2]) f ∧ gd (acc ++ [s2]) f ≤ n
      rw [gd_app]
      split
      · omega
      · exact p6 f (by omega)
    · show gd (acc ++ [s2]) f ≤ gd (acc ++ [s2]) (f + 1) ∧ gd (acc ++ [s2]) (f + 1) - gd (acc ++ [s2]) f ≤ gd rooms (f + 1)
      rw [gd_app, gd_app, if_neg (by omega)]
      split
      · rename_i e
        have e2 : f + 1 = i := by omega
        have a := p5 f e2.symm
        rw [a, e2, hri]
        omega
      · exact p7 f (by omega)
    · show gd (acc ++ [s2]) 0 ≤ gd rooms 0
      rw [gd_app]
      split
      · have e0 : i = 0 := by omega
        have := p4 e0
        rw [e0] at hri
        omega
      · exact p8 (by omega)
  · obtain ⟨szs, sz⟩ := y
    obtain ⟨p1, p2, p3, p4, p5, p6, p7, p8⟩ := Φ
    have p1 : szs.length = rooms.length := p1
    have hsz : SzOk (n, rooms) szs := by
      refine ⟨p1, fun x hx => ?_, fun f hf => (p7 f (by omega)).1, p8 (by omega), fun f hf => (p7 f hf).2⟩
      obtain ⟨f, hf⟩ := List.getElem?_of_mem hx
      have hfl := (List.getElem?_eq_some_iff.mp hf).1
      have := p6 f (by omega)
      have e : gd szs f = x := gd_some hf
      rw [← e]
      exact this
    clear p2 p3 p4 p5 p6 p7 p8
    try dsimp only
    -- from here on the sizes stand still
    refine ss_frz (i := 3) rfl ?_
    dsimp only [List.set]
    try with_reducible refine ss_seq ?_
    refine ss_le (δ' := [.bag, .dat (hD (n, rooms)), .dat (tI o), .dat (lI szs), .no, .no, .no, .no, .no, .no, .no, .no]) (by symm_saturate) ?_
    with_reducible refine ss_forL [6] ?_
    repeat bv_omega
    refine ⟨by decide, ?_⟩
    refine forOkI (List.range (3 : Int).toNat) _ (rgD_map0 _) (fun _ => [.bag, .dat (hD (n, rooms)), .dat (tI o), .dat (lI szs), .no, .no, .no, .no, .no, .no, .no, .no]) (fun _ => True) trivial (Le.refl _) (fun i d hi _ => ?_) fun _ => ?_
    · repeat bv_omega
      dsimp only [List.set]
      try with_reducible refine ss_seq ?_
      refine ss_setL (wl_lst ?_)
      repeat bv_omega
      dsimp only [List.set]
      try with_reducible refine ss_seq ?_
      with_reducible refine ss_forL [4] ?_
      repeat bv_omega
      refine forOkE (β := List (List Int)) szs .int rfl (fun y => [.bag, .dat (hD (n, rooms)), .dat (tI o), .dat (lI szs), .no, .no, .no, .own (y.map tI), .no, .no, .no, .no]) (fun i y => y.length = i ∧ ∀ r ∈ y, r.length = n.toNat + 1) [] ⟨rfl, fun r h => by cases h⟩ (by symm_saturate) (fun j s y hj Φ => ?_) fun y Φ => ?_
      · obtain ⟨q1, q2⟩ := Φ
        have hjl := (List.getElem?_eq_some_iff.mp hj).1
        repeat bv_omega
        dsimp only [List.set]
        try with_reducible refine ss_seq ?_
        refine ss_set (we_of_wl (wl_lcL ?_))
        repeat bv_omega
        refine ⟨by omega, ?_⟩
        refine lcOkR (List.range (n + 1).toNat) _ (rgD_map0 _) (fun c d => ∃ w : Int, d = .tuple [.int w, .int (c : Nat)]) (sm_lt (by simp; omega)) (fun c c' hc => ?_) fun ds hdl hds => ?_
        · dsimp only [wipeD, List.set]
          repeat bv_omega
          refine ⟨rfl, ?_⟩
          repeat bv_omega
          refine callOk (3 : Int) rfl (by decide) ?_
          rintro d ⟨v, rfl, v0, v1⟩
          repeat bv_omega
          exact ⟨v, rfl⟩
        rw [List.length_range] at hdl
        obtain ⟨ps, rfl, hpl, hps⟩ : ∃ ps : List (Int × Nat), ds = ps.map (fun p => PyData.tuple [.int p.1, .int (p.2 : Nat)]) ∧ ps.length = (n + 1).toNat ∧ ∀ p ∈ ps, p.2 ≤ n.toNat := by
          have key : ∀ (ds : List D) (k : Nat), (∀ (i : Nat) (d : D), ds[i]? = some d → ∃ w : Int, d = .tuple [.int w, .int ((k + i : Nat) : Int)]) → ∃ ps : List (Int × Nat), ds = ps.map (fun p => PyData.tuple [.int p.1, .int (p.2 : Nat)]) ∧ ps.length = ds.length ∧ ∀ p ∈ ps, p.2 < k + ds.length := by
            intro ds
            induction ds with
            | nil => intro k _; exact ⟨[], rfl, rfl, fun p h => by cases h⟩
            | cons d ds ih =>
              intro k hd
              obtain ⟨w, hw⟩ := hd 0 d rfl
              obtain ⟨ps, e, l, b⟩ := ih (k + 1) fun i d h => by
                obtain ⟨w, e⟩ := hd (i + 1) d h
                exact ⟨w, by rw [e, show k + (i + 1) = k + 1 + i by omega]⟩
              refine ⟨(w, k) :: ps, by rw [hw, e]; rfl, by simp [l], fun p hp => ?_⟩
              rcases List.mem_cons.mp hp with z | z
              · subst z; simp
              · have := b p z
                simp
                omega
          obtain ⟨ps, e, l, b⟩ := key ds 0 fun i d h => by
            have hi := (List.getElem?_eq_some_iff.mp h).1
            obtain ⟨w, e⟩ := hds i i d (List.getElem?_range (by omega)) h
            exact ⟨w, by rw [e, Nat.zero_add]⟩
          refine ⟨ps, e, by omega, fun p hp => ?_⟩
          have := b p hp
          omega
        dsimp only [List.set]
        refine ss_append rfl ?_
        repeat bv_omega
        refine lcOkR ps _ rfl (fun _ d => ∃ v : Int, d = .int v) (sm_lt (by omega)) (fun c p hc => ?_) fun ds hdl hds => ?_
        · have hp2 := hps p (List.mem_of_getElem? hc)
          dsimp only [wipeD, List.set]
          repeat bv_omega
          refine ⟨rfl, ?_⟩
          repeat bv_omega
          refine ⟨fun _ => ?_, fun _ => ?_⟩
          · repeat bv_omega
            refine callOk ((p.2 : Int) + 1) rfl ⟨by omega, by omega⟩ ?_
            rintro d ⟨v, rfl, v0, v1⟩
            repeat bv_omega
            try exact ⟨_, rfl⟩
          · repeat bv_omega
            try exact ⟨_, rfl⟩
        obtain ⟨row, rfl⟩ : ∃ row : List Int, ds = row.map .int := by
          have : ∀ ds : List D, (∀ d ∈ ds, ∃ v : Int, d = .int v) → ∃ row : List Int, ds = row.map .int := by
            intro ds
            induction ds with
            | nil => intro _; exact ⟨[], rfl⟩
            | cons d ds ih =>
              intro hd
              obtain ⟨r, e⟩ := ih fun x hx => hd x (.tail _ hx)
              obtain ⟨v, e2⟩ := hd d (.head _)
              exact ⟨v :: r, by rw [e, e2]; rfl⟩
          refine this ds fun d hd => ?_
          obtain ⟨i, hi⟩ := List.getElem?_of_mem hd
          have := (List.getElem?_eq_some_iff.mp hi).1
          exact hds i _ d (List.getElem?_eq_getElem (by omega)) hi
        rw [List.length_map] at hdl
        repeat bv_omega
        refine ⟨sm_lt (by simp; omega), ?_⟩
        dsimp only [List.set]
        refine ⟨y ++ [row], ⟨by simp; omega, fun r hr => ?_⟩, by simp only [List.map_append]; symm_saturate⟩
        rcases List.mem_append.mp hr with z | z
        · exact q2 r z
        · simp at z
          subst z
          omega
      · obtain ⟨q1, q2⟩ := Φ
        try dsimp only
        try with_reducible refine ss_seq ?_
        refine ss_set ?_
        repeat bv_omega
        refine callOk (y, szs, n.toNat) rfl ⟨by show y ≠ []; intro e; rw [e] at q1; simp at q1; omega, by show y.length = szs.length; omega, by show y.length ≤ 100; omega, by show n.toNat ≤ 100; omega, q2⟩ ?_
        rintro d (⟨rfl, _⟩ | ⟨tw, rfl, ht⟩)
        · dsimp only [List.set]
          with_reducible refine ss_if ?_
          repeat bv_omega
          refine ⟨rfl, false, rfl, (fun z => nomatch z), fun _ => ?_⟩
          repeat bv_omega
          exact ⟨trivial, by symm_saturate⟩
        · dsimp only [List.set]
          with_reducible refine ss_if ?_
          repeat bv_omega
          refine ⟨rfl, true, rfl, fun _ => ?_, (fun z => nomatch z)⟩
          repeat bv_omega
          exact ⟨(o, tw), rfl, Vk.of ho hsz ht⟩
    · repeat bv_omega
      refine dMul_tup (by omega) ?_
      repeat bv_omega
      rw [List.length_map]
      refine dMul_tup (by omega) ?_
      repeat bv_omega
      have ez : PyData.tuple (List.replicate (((szs.length : Nat) : Int)).toNat (PyData.tuple (List.replicate (n + 1).toNat (PyData.int 0)))) = wsD (zrows szs.length n.toNat) := by
        rw [zrows_D, show (n + 1).toNat = n.toNat + 1 by omega, Int.toNat_natCast]
      rw [ez]
      refine callOk (zrows szs.length n.toNat, szs, n.toNat) rfl ⟨zrows_ne (by omega), by show (zrows _ _).length = szs.length; simp [zrows], by show (zrows _ _).length ≤ 100; simp [zrows]; omega, by show n.toNat ≤ 100; omega, fun r hr => by rw [List.eq_of_mem_replicate hr]; simp⟩ ?_
      rintro d (⟨rfl, hz⟩ | ⟨tw, rfl, ht⟩)
      · exact absurd (zrows_ok hh hsz) hz
      · repeat bv_omega
        exact ⟨(o, tw), rfl, Vk.of ho hsz ht⟩

end
section
/-! FkH2: knowledges told otherwise. -/
variable {T : Addr × Str} {K : PySem.W.Frag}
abbrev C_of_known : Ct := ⟨House × Know, fun a => [kD a.2], fun a => HOk a.1 ∧ Vk a.1 a.2, fun a d => ∃ k : Know, d = kD k ∧ Vk a.1 k⟩
theorem swap_perm {o : List Int} {a b : Nat} {x y : Int} (ha : o[a]? = some x) (hb : o[b]? = some y) : ((o.set a y).set b x).Perm o := by
  rw [List.perm_iff_count]
  intro f
  have hal := (List.getElem?_eq_some_iff.mp ha).1
  have h2 : (o.set a y)[b]? = some y := by
    by_cases e : a = b
    · subst e
      rw [List.getElem?_set_self hal]
    · rw [List.getElem?_set_ne e]; exact hb
  have e1 := count_set (f := f) (y := x) h2
  have e2 := count_set (f := f) (y := y) ha
  split at e1 <;> split at e1 <;> split at e2 <;> (try split at e2) <;> omega
theorem Vk.perm' {h : House} {k : Know} {o : List Int} (v : Vk h k) (hp : o.Perm k.1) : Vk h (o, k.2) := ⟨hp.trans v.perm, v.nf, v.tight, v.room0, v.room⟩
theorem d_law_swapped : DOkB T (t__law_swapped K (spB T C_law_take)) C_of_known n__law_swapped 2 := by
  rintro ⟨⟨n, rooms⟩, o, ws⟩ ⟨hh, hv⟩ M hT
  have hh : HOk (n, rooms) := hh
  have hv : Vk (n, rooms) (o, ws) := hv
  have n1 : n ≤ 16 := hh.n1
  have hol : o.length = n.toNat := hv.len
  show SS M (t__law_swapped K _) [.bag, .dat (kD (o, ws)), .no, .no, .no] _ _
  unfold t__law_swapped
  try with_reducible refine ss_seq ?_
  refine ss_setL (wl_list ?_)
  repeat bv_omega
  dsimp only [List.set]
  try with_reducible refine ss_seq ?_
  refine ss_imp (N' := fun δ' => ∃ q : List Int, q.Perm o ∧ Le δ' [.bag, .dat (kD (o, ws)), .own (q.map .int), .no, .no]) ?_ ?_
  · refine ss_if (wt_eq (R' := fun b => b = true → o ≠ []) ?_ fun b hb => ⟨fun z => ?_, fun z => ?_⟩)
    · refine wt_frz ?_
      dsimp only [frz]
      repeat bv_omega
      refine dNe_f (e := lI) (b := []) fLI ?_
      repeat bv_omega
      intro z e
      rw [e] at z
      simp at z
    · have hne := hb z
      have hpos : 0 < o.length := List.length_pos_iff.mpr hne
      try with_reducible refine ss_seq ?_
      refine ss_par (by simp) (by simp) (by decide) ?_
      refine ws_dat ?_
      repeat bv_omega
      rw [List.length_map]
      refine callOk (o.length : Int) rfl ⟨by omega, by omega⟩ ?_
      rintro d ⟨v, rfl, v0, v1⟩
      have v1 : v < (o.length : Int) := v1
      refine ws_dat ?_
      repeat bv_omega
      rw [List.length_map]
      refine callOk (o.length : Int) rfl ⟨by omega, by omega⟩ ?_
      rintro d ⟨u, rfl, u0, u1⟩
      have u1 : u < (o.length : Int) := u1
      refine ws_nil ⟨_, _, rfl, ?_⟩
      dsimp only [List.set]
      have hx : o[v.toNat]? = some (gd o v.toNat) := getD_some (by omega)
      have hy : o[u.toNat]? = some (gd o u.toNat) := getD_some (by omega)
      refine ss_asgH ?_
      repeat bv_omega
      refine ⟨_, _, rfl, atI_get u.toNat (by omega) (by omega), ?_⟩
      repeat bv_omega
      refine ⟨_, _, rfl, atI_get v.toNat (by omega) (by omega), ?_⟩
      repeat bv_omega
      refine wh_tup rfl (whs_cons (wh_sub rfl ?_))
      repeat bv_omega
      refine ⟨v.toNat, by rw [Int.toNat_of_nonneg v0], by rw [List.length_map]; omega, ?_⟩
      dsimp only [List.set]
      rw [set_map]
      refine whs_cons (wh_sub rfl ?_)
      repeat bv_omega
      refine ⟨u.toNat, by rw [Int.toNat_of_nonneg u0], by rw [List.length_map, List.length_set]; omega, ?_⟩
      dsimp only [List.set]
      rw [set_map]
      refine whs_nil ⟨_, swap_perm hx hy, ?_⟩
      symm_saturate
    · repeat bv_omega
      exact ⟨o, List.Perm.refl _, Le.refl _⟩
  rintro δ' ⟨q, hq, hle⟩
  refine ss_le hle ?_
  repeat bv_omega
  exact ⟨(q, ws), rfl, hv.perm' hq⟩
abbrev C_law_of_sizes : Ct := ⟨House × List Int, fun a => [hD a.1, tI a.2], fun a => HOk a.1 ∧ SzOk a.1 a.2, fun a d => ∃ k : Know, d = kD k ∧ Vk a.1 k⟩
theorem all_ints : ∀ ds : List D, (∀ d ∈ ds, ∃ v : Int, d = .int v) → ∃ row : List Int, ds = row.map .int
  | [], _ => ⟨[], rfl⟩
  | d :: ds, hd => by
    obtain ⟨r, e⟩ := all_ints ds fun x hx => hd x (.tail _ hx)
    obtain ⟨v, e2⟩ := hd d (.head _)
    exact ⟨v :: r, by rw [e, e2]; rfl⟩
theorem d_law_of_sizes : DOkB T (t__law_of_sizes K (spP C_law_tightened) (spB T C_law_take) (spB T C_law_mixed)) C_law_of_sizes n__law_of_sizes 3 := by
  rintro ⟨⟨n, rooms⟩, szs⟩ ⟨hh, hsz⟩ M hT
  have hh : HOk (n, rooms) := hh
  have hsz : SzOk (n, rooms) szs := hsz
  have n0 : 0 ≤ n := hh.n0
  have n1 : n ≤ 16 := hh.n1
  have m0 : 1 ≤ rooms.length := hh.m0
  have m1 : rooms.length ≤ 4 := hh.m1
  have p1 : szs.length = rooms.length := hsz.len
  show SS M (t__law_of_sizes K _ _ _) [.bag, .dat (hD (n, rooms)), .dat (tI szs), .no, .no, .no, .no, .no] _ _
  unfold t__law_of_sizes
  try with_reducible refine ss_seq ?_
  refine ss_set ?_
  repeat bv_omega
  refine we_of_wl (wl_listRg ?_)
  repeat bv_omega
  refine ⟨by show 0 ≤ n ∧ n ≤ _; omega, ?_⟩
  repeat bv_omega
  refine callOk (rgD 0 n.toNat) rfl (by show (rgD 0 n.toNat).length ≤ 100000; rw [rgD_len]; omega) ?_
  rintro d ⟨ys, rfl, hys⟩
  obtain ⟨o, rfl, ho⟩ := perm_rg hys
  repeat bv_omega
  dsimp only [List.set]
  try with_reducible refine ss_seq ?_
  refine ss_setL (wl_lst ?_)
  repeat bv_omega
  dsimp only [List.set]
  try with_reducible refine ss_seq ?_
  with_reducible refine ss_forL [5] ?_
  repeat bv_omega
  refine forOkE (β := List (List Int)) szs .int rfl (fun y => [.bag, .dat (hD (n, rooms)), .dat (tI szs), .dat (tI o), .own (y.map tI), .no, .no, .no]) (fun i y => y.length = i ∧ ∀ r ∈ y, r.length = n.toNat + 1) [] ⟨rfl, fun r h => by cases h⟩ (Le.refl _) (fun j s y hj Φ => ?_) fun y Φ => ?_
  · obtain ⟨q1, q2⟩ := Φ
    have hjl := (List.getElem?_eq_some_iff.mp hj).1
    repeat bv_omega
    dsimp only [List.set]
    refine ss_append rfl ?_
    repeat bv_omega
    refine ⟨by omega, ?_⟩
    refine lcOkR (List.range (n + 1).toNat) _ (rgD_map0 _) (fun _ d => ∃ v : Int, d = .int v) (sm_lt (by simp; omega)) (fun c c' hc => ?_) fun ds hdl hds => ?_
    · have hc' := List.mem_range.mp (List.mem_of_getElem? hc)
      dsimp only [wipeD, List.set]
      repeat bv_omega
      refine ⟨rfl, ?_⟩
      repeat bv_omega
      refine callOk ((c' : Int) + 1) rfl ⟨by omega, by omega⟩ ?_
      rintro d ⟨v, rfl, v0, v1⟩
      repeat bv_omega
      refine callOk (3 : Int) rfl (by decide) ?_
      rintro d ⟨v, rfl, v0, v1⟩
      repeat bv_omega
      refine dMul_int (.inr (by split <;> decide)) ?_
      exact ⟨_, rfl⟩
    obtain ⟨row, rfl⟩ := all_ints ds fun d hd => by
      obtain ⟨i, hi⟩ := List.getElem?_of_mem hd
      have := (List.getElem?_eq_some_iff.mp hi).1
      exact hds i _ d (List.getElem?_eq_getElem (by omega)) hi
    rw [List.length_map, List.length_range] at hdl
    repeat bv_omega
    refine ⟨sm_lt (by simp; omega), ?_⟩
    dsimp only [List.set]
    refine ⟨y ++ [row], ⟨by simp; omega, fun r hr => ?_⟩, by simp only [List.map_append]; symm_saturate⟩
    rcases List.mem_append.mp hr with z | z
    · exact q2 r z
    · simp at z
      subst z
      omega
  · obtain ⟨q1, q2⟩ := Φ
    try with_reducible refine ss_seq ?_
    refine ss_set ?_
    repeat bv_omega
    refine callOk (y, szs, n.toNat) rfl ⟨by show y ≠ []; intro e; rw [e] at q1; simp at q1; omega, by show y.length = szs.length; omega, by show y.length ≤ 100; omega, by show n.toNat ≤ 100; omega, q2⟩ ?_
    rintro d (⟨rfl, _⟩ | ⟨tw, rfl, ht⟩)
    · dsimp only [List.set]
      repeat bv_omega
      refine ⟨rfl, false, rfl, (fun z => nomatch z), fun _ => ?_⟩
      repeat bv_omega
      refine dMul_tup (by omega) ?_
      repeat bv_omega
      rw [List.length_map]
      refine dMul_tup (by omega) ?_
      repeat bv_omega
      have ez : PyData.tuple (List.replicate (((szs.length : Nat) : Int)).toNat (PyData.tuple (List.replicate (n + 1).toNat (PyData.int 0)))) = wsD (zrows szs.length n.toNat) := by
        rw [zrows_D, show (n + 1).toNat = n.toNat + 1 by omega, Int.toNat_natCast]
      rw [ez]
      refine callOk (zrows szs.length n.toNat, szs, n.toNat) rfl ⟨zrows_ne (by omega), by show (zrows _ _).length = szs.length; simp [zrows], by show (zrows _ _).length ≤ 100; simp [zrows]; omega, by show n.toNat ≤ 100; omega, fun r hr => by rw [List.eq_of_mem_replicate hr]; simp⟩ ?_
      rintro d (⟨rfl, hz⟩ | ⟨tw, rfl, ht⟩)
      · exact absurd (zrows_ok hh hsz) hz
      · repeat bv_omega
        exact ⟨(o, tw), rfl, Vk.of ho hsz ht⟩
    · dsimp only [List.set]
      repeat bv_omega
      refine ⟨rfl, true, rfl, fun _ => ?_, (fun z => nomatch z)⟩
      repeat bv_omega
      exact ⟨(o, tw), rfl, Vk.of ho hsz ht⟩
theorem d_law_some_known : DOkB T (t__law_some_known K (spB T C_law_take) (spB T C_know) (spB T C_law_known)) C_know n__law_some_known 2 := by
  rintro (h : House) hh M hT
  have hh : HOk h := hh
  show SS M (t__law_some_known K _ _ _) [.bag, .dat (hD h)] _ _
  unfold t__law_some_known
  repeat bv_omega
  refine callOk (3 : Int) rfl (by decide) ?_
  rintro d ⟨v, rfl, v0, v1⟩
  repeat bv_omega
  refine ⟨fun _ => ?_, fun _ => ?_⟩
  · repeat bv_omega
    exact callOk h rfl hh fun d h => h
  · repeat bv_omega
    refine callOk (h, 12, 6) rfl ⟨hh, by show (0 : Int) ≤ 12; decide, by show (12 : Int) ≤ 1000; decide, by show (0 : Int) ≤ 6; decide, by show (6 : Int) ≤ 1000; decide⟩ ?_
    rintro d ⟨k, x, y, rfl, hk⟩
    repeat bv_omega
    try exact ⟨k, rfl, hk⟩
abbrev C_two : Ct := ⟨House, fun h => [hD h], fun h => HOk h, fun h d => ∃ k m : Know, d = .tuple [kD k, kD m] ∧ Vk h k ∧ Vk h m⟩
theorem d_law_two_knowns : DOkB T (t__law_two_knowns K (spB T C_law_take) (spB T C_of_known) (spP C_known_sizes) (spB T C_law_of_sizes) (spB T C_of_known) (spB T C_of_known) (spB T C_law_one) (spB T C_know)) C_two n__law_two_knowns 2 := by
  rintro (h : House) hh M hT
  have hh : HOk h := hh
  show SS M (t__law_two_knowns K _ _ _ _ _ _ _ _) [.bag, .dat (hD h), .no, .no, .no] _ _
  unfold t__law_two_knowns
  try with_reducible refine ss_seq ?_
  refine ss_set ?_
  repeat bv_omega
  refine callOk h rfl hh ?_
  rintro d ⟨k, rfl, hk⟩
  dsimp only [List.set]
  try with_reducible refine ss_seq ?_
  refine ss_set ?_
  repeat bv_omega
  refine callOk [.int 0, .int 1, .int 2, .int 3, .int 4, .int 4, .int 5, .int 4] rfl ⟨by simp, by simp⟩ ?_
  intro d hd
  obtain ⟨way, rfl⟩ : ∃ w : Int, d = .int w := by
    simp only [List.mem_cons, List.mem_nil_iff, or_false] at hd
    rcases hd with rfl | rfl | rfl | rfl | rfl | rfl | rfl | rfl <;> exact ⟨_, rfl⟩
  dsimp only [List.set]
  try with_reducible refine ss_seq ?_
  refine ss_set ?_
  repeat bv_omega
  refine callOk (h, k) rfl ⟨hh, hk⟩ ?_
  rintro d ⟨m, rfl, hm⟩
  dsimp only [List.set]
  have call : ∀ (k m : Know) (d : D), (∃ m2, d = kD m2 ∧ Vk h m2) → ∃ m2, Vk h m2 ∧ ([.bag, .dat (hD h), .dat (kD k), .dat (.int way), .dat (kD m)] : List SD).set 4 (.dat d) = [.bag, .dat (hD h), .dat (kD k), .dat (.int way), .dat (kD m2)] := by
    rintro k m d ⟨m2, rfl, h2⟩
    exact ⟨m2, h2, rfl⟩
  have same : ∀ (m : Know), Vk h m → ∃ m2, Vk h m2 ∧ ([.bag, .dat (hD h), .dat (kD k), .dat (.int way), .dat (kD m)] : List SD) = [.bag, .dat (hD h), .dat (kD k), .dat (.int way), .dat (kD m2)] := fun m hm => ⟨m, hm, rfl⟩
  try with_reducible refine ss_seq ?_
  refine ss_imp (N' := fun δ' => ∃ m2, Vk h m2 ∧ δ' = [.bag, .dat (hD h), .dat (kD k), .dat (.int way), .dat (kD m2)]) ?_ ?_
  · refine ss_if (wt_eq (R' := fun _ => True) ?_ fun b _ => ⟨fun z => ?_, fun _ => ?_⟩)
    · repeat bv_omega
      refine ⟨fun _ => trivial, fun _ => ?_⟩
      repeat bv_omega
      try trivial
    · refine ss_set ?_
      repeat bv_omega
      exact callOk (h, m) rfl ⟨hh, hm⟩ (call k m)
    · repeat bv_omega
      exact same m hm
  rintro δ' ⟨m, hm, rfl⟩
  try with_reducible refine ss_seq ?_
  refine ss_imp (N' := fun δ' => ∃ m2, Vk h m2 ∧ δ' = [.bag, .dat (hD h), .dat (kD k), .dat (.int way), .dat (kD m2)]) ?_ ?_
  · refine ss_if (wt_eq (R' := fun _ => True) ?_ fun b _ => ⟨fun z => ?_, fun _ => ?_⟩)
    · repeat bv_omega
      try trivial
    · refine ss_set ?_
      repeat bv_omega
      exact callOk (h, k) rfl ⟨hh, hk⟩ (call k m)
    · repeat bv_omega
      exact same m hm
  rintro δ' ⟨m, hm, rfl⟩
  try with_reducible refine ss_seq ?_
  refine ss_imp (N' := fun δ' => ∃ m2, Vk h m2 ∧ δ' = [.bag, .dat (hD h), .dat (kD k), .dat (.int way), .dat (kD m2)]) ?_ ?_
  · refine ss_if (wt_eq (R' := fun _ => True) ?_ fun b _ => ⟨fun z => ?_, fun _ => ?_⟩)
    · repeat bv_omega
      try trivial
    · refine ss_set ?_
      repeat bv_omega
      refine callOk k rfl ⟨(hk.kok hh).sw, (hk.kok hh).ne⟩ ?_
      rintro d rfl
      repeat bv_omega
      exact callOk (h, ksz k) rfl ⟨hh, hk.sz hh⟩ (call k m)
    · repeat bv_omega
      exact same m hm
  rintro δ' ⟨m, hm, rfl⟩
  try with_reducible refine ss_seq ?_
  refine ss_imp (N' := fun δ' => ∃ m2, Vk h m2 ∧ δ' = [.bag, .dat (hD h), .dat (kD k), .dat (.int way), .dat (kD m2)]) ?_ ?_
  · refine ss_if (wt_eq (R' := fun _ => True) ?_ fun b _ => ⟨fun z => ?_, fun _ => ?_⟩)
    · repeat bv_omega
      try trivial
    · refine ss_set ?_
      repeat bv_omega
      exact callOk (h, k) rfl ⟨hh, hk⟩ (call k m)
    · repeat bv_omega
      exact same m hm
  rintro δ' ⟨m, hm, rfl⟩
  repeat bv_omega
  refine callOk (2 : Int) rfl (by decide) ?_
  rintro d ⟨v, rfl, v0, v1⟩
  repeat bv_omega
  refine ⟨fun _ => ?_, fun _ => ?_⟩
  · repeat bv_omega
    exact ⟨hk, hm⟩
  · repeat bv_omega
    exact ⟨hm, hk⟩
theorem d_law_two_plain : DOkB T (t__law_two_plain K (spP C_law_tightened) (spP C_known_sizes) (spB T C_law_take) (spB T C_law_mixed) (spP C_law_sizes) (spB T C_law_state)) C_two n__law_two_plain 2 := by
  rintro ⟨n, rooms⟩ hh M hT
  have hh : HOk (n, rooms) := hh
  have n0 : 0 ≤ n := hh.n0
  have n1 : n ≤ 16 := hh.n1
  have m0 : 1 ≤ rooms.length := hh.m0
  have m1 : rooms.length ≤ 4 := hh.m1
  show SS M (t__law_two_plain K _ _ _ _ _ _) [.bag, .dat (hD (n, rooms)), .no, .no, .no, .no, .no, .no, .no, .no, .no, .no, .no] _ _
  unfold t__law_two_plain
  try with_reducible refine ss_seq ?_
  refine ss_par (by simp) (by simp) (by decide) ?_
  refine ws_dat ?_
  repeat bv_omega
  refine ws_dat ?_
  repeat bv_omega
  refine we_of_wl (wl_listRg ?_)
  repeat bv_omega
  refine ⟨by show 0 ≤ n ∧ n ≤ _; omega, ?_⟩
  repeat bv_omega
  refine callOk (rgD 0 n.toNat) rfl (by show (rgD 0 n.toNat).length ≤ 100000; rw [rgD_len]; omega) ?_
  rintro d ⟨ys, rfl, hys⟩
  obtain ⟨o, rfl, ho⟩ := perm_rg hys
  repeat bv_omega
  refine ws_nil ⟨_, _, rfl, ?_⟩
  dsimp only [List.set]
  try with_reducible refine ss_seq ?_
  refine ss_set (we_of_wl (wl_lst ?_))
  repeat bv_omega
  refine callOk (n, rooms) rfl hh ?_
  rintro d ⟨s1, rfl, h1⟩
  repeat bv_omega
  refine callOk (n, rooms) rfl hh ?_
  rintro d ⟨s2, rfl, h2⟩
  repeat bv_omega
  refine dMul_tup (by omega) ?_
  repeat bv_omega
  have e0 : PyData.tuple (List.replicate n.toNat (PyData.int ((rooms.map PyData.int).length : Nat))) = tI (List.replicate n.toNat (rooms.length : Int)) := by simp
  rw [e0]
  dsimp only [List.set]
  try with_reducible refine ss_seq ?_
  refine ss_setL (wl_lst ?_)
  repeat bv_omega
  dsimp only [List.set]
  try with_reducible refine ss_seq ?_
  with_reducible refine ss_forL [6] ?_
  repeat bv_omega
  refine callOk [tI s1, tI s2, tI (List.replicate n.toNat (rooms.length : Int))] rfl (by show (3 : Nat) ≤ 100000; decide) ?_
  rintro d ⟨ys, rfl, hys⟩
  repeat bv_omega
  rw [show (2 : Int) = ((2 : Nat) : Int) by rfl, cutD_upto]
  obtain ⟨sts, esl, hsl, hst⟩ : ∃ sts : List (List Int), ys.take 2 = sts.map tI ∧ sts.length = 2 ∧ ∀ s ∈ sts, StOk (n, rooms) s := by
    have hyl := hys.length_eq
    have hmem : ∀ d ∈ ys, ∃ s, d = tI s ∧ StOk (n, rooms) s := fun d hd => by
      have := hys.subset hd
      simp only [List.mem_cons, List.mem_nil_iff, or_false] at this
      rcases this with rfl | rfl | rfl
      · exact ⟨_, rfl, h1⟩
      · exact ⟨_, rfl, h2⟩
      · exact ⟨_, rfl, out_ok hh⟩
    match ys, hyl, hmem with
    | [a, b, c], _, hmem =>
      obtain ⟨x, rfl, hx⟩ := hmem a (.head _)
      obtain ⟨y, rfl, hy⟩ := hmem b (.tail _ (.head _))
      refine ⟨[x, y], rfl, rfl, fun s hs => ?_⟩
      simp only [List.mem_cons, List.mem_nil_iff, or_false] at hs
      rcases hs with rfl | rfl
      · exact hx
      · exact hy
  rw [esl]
  refine forOkE (β := List Know) sts tI rfl (fun y => [.bag, .dat (hD (n, rooms)), .dat (.int n), .dat (tI o), .dat (.list [tI s1, tI s2, tI (List.replicate n.toNat (rooms.length : Int))]), .own (y.map kD), .no, .no, .no, .no, .no, .no, .no]) (fun i y => y.length = i ∧ ∀ k ∈ y, Vk (n, rooms) k) [] ⟨rfl, fun k h => by cases h⟩ (Le.refl _) (fun i st y hi Φ => ?_) fun y Φ => ?_
  · obtain ⟨p1, p2⟩ := Φ
    have hs := hst st (List.mem_of_getElem? hi)
    have hsz := hs.sz hh
    have hslen : (st.length : Int) = n := hs.len
    have hil := (List.getElem?_eq_some_iff.mp hi).1
    have hzl : (sizesL rooms.length st).length = rooms.length := by simp [sizesL]
    have hmr : (((n, rooms) : House).2.map PyData.int).length = rooms.length := List.length_map _
    repeat bv_omega
    dsimp only [List.set]
    refine ss_append rfl ?_
    repeat bv_omega
    refine dMul_tup (by omega) ?_
    repeat bv_omega
    rw [hmr]
    refine dMul_tup (by omega) ?_
    repeat bv_omega
    have ez : PyData.tuple (List.replicate (((rooms.length : Nat) : Int)).toNat (PyData.tuple (List.replicate (n + 1).toNat (PyData.int 0)))) = wsD (zrows (sizesL rooms.length st).length n.toNat) := by
      rw [zrows_D, show (n + 1).toNat = n.toNat + 1 by omega, Int.toNat_natCast, hzl]
    rw [ez]
    refine callOk ((n, rooms), st) rfl ⟨hslen.symm, by show st.length ≤ 100000; omega, by show rooms.length ≤ 100000; omega⟩ ?_
    rintro d rfl
    repeat bv_omega
    refine callOk (zrows (sizesL rooms.length st).length n.toNat, sizesL rooms.length st, n.toNat) rfl ⟨zrows_ne (by omega), by show (zrows _ _).length = (sizesL rooms.length st).length; simp [zrows], by show (zrows _ _).length ≤ 100; simp [zrows]; omega, by show n.toNat ≤ 100; omega, fun r hr => by rw [List.eq_of_mem_replicate hr]; simp⟩ ?_
    rintro d (⟨rfl, hz⟩ | ⟨tw, rfl, ht⟩)
    · exact absurd (zrows_ok hh hsz) hz
    · repeat bv_omega
      refine ⟨sm_lt (by simp; omega), ?_⟩
      dsimp only [List.set]
      refine ⟨y ++ [(o, tw)], ⟨by simp; omega, fun k hk => ?_⟩, by simp only [List.map_append]; symm_saturate⟩
      rcases List.mem_append.mp hk with z | z
      · exact p2 k z
      · simp at z
        subst z
        exact Vk.of ho hsz ht
  · obtain ⟨p1, p2⟩ := Φ
    rw [hsl] at p1
    obtain ⟨k1, k2, rfl⟩ : ∃ k1 k2, y = [k1, k2] := by
      match y, p1 with
      | [a, b], _ => exact ⟨a, b, rfl⟩
    have hk1 := p2 k1 (.head _)
    have hk2 := p2 k2 (.tail _ (.head _))
    have hkk := hk1.kok hh
    refine ss_frz (i := 5) rfl ?_
    dsimp only [List.set]
    try with_reducible refine ss_seq ?_
    refine ss_imp (N' := fun δ' => δ' = [.bag, .dat (hD (n, rooms)), .dat (.int n), .dat (tI o), .dat (.list [tI s1, tI s2, tI (List.replicate n.toNat (rooms.length : Int))]), .dat (.list [kD k1, kD k2]), .no, .no, .no, .no, .no, .no, .no]) ?_ ?_
    · refine ss_if (wt_eq (R' := fun _ => True) ?_ fun b _ => ⟨fun z => ?_, fun _ => ?_⟩)
      · repeat bv_omega
        refine callOk (2 : Int) rfl (by decide) ?_
        rintro d ⟨v, rfl, v0, v1⟩
        repeat bv_omega
        refine ⟨fun _ => trivial, fun _ => ?_⟩
        repeat bv_omega
        try trivial
      · repeat bv_omega
        try (refine dIx_list (d := kD k1) rfl ?_)
        repeat bv_omega
        try (refine dIx_list (d := kD k2) rfl ?_)
        repeat bv_omega
        first | exact ⟨k1, k2, rfl, hk1, hk2⟩ | exact ⟨hk1, hk2⟩
      · repeat bv_omega
        try rfl
    rintro δ' rfl
    have hsz := hk1.sz hh
    have hzl : (ksz k1).length = rooms.length := hsz.len
    try with_reducible refine ss_seq ?_
    refine ss_par (by simp) (by simp) (by decide) ?_
    refine ws_own (wl_lst ?_)
    repeat bv_omega
    refine ws_dat ?_
    repeat bv_omega
    try (refine dIx_list (d := kD k1) rfl ?_)
    repeat bv_omega
    refine callOk k1 rfl ⟨hkk.sw, hkk.ne⟩ ?_
    rintro d rfl
    refine ws_nil ⟨_, _, rfl, ?_⟩
    dsimp only [List.set]
    try with_reducible refine ss_seq ?_
    with_reducible refine ss_forL [9] ?_
    repeat bv_omega
    refine forOkE (β := List Know) [(1 : Int), 2] .int rfl (fun y => [.bag, .dat (hD (n, rooms)), .dat (.int n), .dat (tI o), .dat (.list [tI s1, tI s2, tI (List.replicate n.toNat (rooms.length : Int))]), .dat (.list [kD k1, kD k2]), .no, .own (y.map kD), .dat (tI (ksz k1)), .no, .no, .no, .no]) (fun i y => y.length = i ∧ ∀ k ∈ y, Vk (n, rooms) k) [] ⟨rfl, fun k h => by cases h⟩ (Le.refl _) (fun i least y hi Φ => ?_) fun y Φ => ?_
    · obtain ⟨q1, q2⟩ := Φ
      have hil := (List.getElem?_eq_some_iff.mp hi).1
      simp at hil
      repeat bv_omega
      dsimp only [List.set]
      try with_reducible refine ss_seq ?_
      refine ss_set ?_
      repeat bv_omega
      refine ⟨by omega, ?_⟩
      refine lcOkM (List.range (n + 1).toNat) _ (rgD_map0 _) (fun c => .int (if c = 2 then least else 0)) (sm_lt (by simp; omega)) (fun c c' hc => ?_) ?_
      · dsimp only [wipeD, List.set]
        repeat bv_omega
        refine ⟨rfl, ?_⟩
        repeat bv_omega
        refine ⟨fun c => ?_, fun c => ?_⟩
        · have c : (c' : Int) = 2 := of_decide_eq_true c
          repeat bv_omega
          rw [if_pos (by omega)]
        · have c : ¬ (c' : Int) = 2 := of_decide_eq_false c
          repeat bv_omega
          rw [if_neg (by omega)]
      have erow : (List.range (n + 1).toNat).map (fun c => PyData.int (if c = 2 then least else 0)) = ((List.range (n + 1).toNat).map fun c => if c = 2 then least else 0).map .int := by rw [List.map_map]; rfl
      rw [erow]
      generalize hrow : ((List.range (n + 1).toNat).map fun c => if c = 2 then least else 0) = row
      have hrl : row.length = n.toNat + 1 := by rw [← hrow]; simp; omega
      repeat bv_omega
      rw [List.length_map, hzl]
      refine dMul_list (by omega) ?_
      repeat bv_omega
      dsimp only [List.set]
      try with_reducible refine ss_seq ?_
      refine ss_set ?_
      repeat bv_omega
      refine callOk (List.replicate rooms.length row, ksz k1, n.toNat) (by simp) ⟨by show List.replicate _ _ ≠ []; intro e; have := congrArg List.length e; rw [List.length_replicate, List.length_nil] at this; omega, by show (List.replicate _ _).length = (ksz k1).length; rw [List.length_replicate, hzl], by show (List.replicate _ _).length ≤ 100; rw [List.length_replicate]; omega, by show n.toNat ≤ 100; omega, fun r hr => by rw [List.eq_of_mem_replicate hr]; exact hrl⟩ ?_
      rintro d (⟨rfl, hz⟩ | ⟨tw, rfl, ht⟩)
      · dsimp only [List.set]
        refine ss_append rfl ?_
        repeat bv_omega
        refine ⟨rfl, true, rfl, fun _ => ?_, (fun z => nomatch z)⟩
        repeat bv_omega
        try (refine dIx_list (d := kD k1) rfl ?_)
        refine ⟨sm_lt (by simp; omega), ?_⟩
        dsimp only [List.set]
        refine ⟨y ++ [k1], ⟨by simp; omega, fun k hk => ?_⟩, by simp only [List.map_append]; symm_saturate⟩
        rcases List.mem_append.mp hk with z | z
        · exact q2 k z
        · simp at z
          subst z
          exact hk1
      · dsimp only [List.set]
        refine ss_append rfl ?_
        repeat bv_omega
        refine ⟨rfl, false, rfl, (fun z => nomatch z), fun _ => ?_⟩
        repeat bv_omega
        refine ⟨sm_lt (by simp; omega), ?_⟩
        dsimp only [List.set]
        refine ⟨y ++ [(o, tw)], ⟨by simp; omega, fun k hk => ?_⟩, by simp only [List.map_append]; symm_saturate⟩
        rcases List.mem_append.mp hk with z | z
        · exact q2 k z
        · simp at z
          subst z
          exact Vk.of ho hsz ht
    · obtain ⟨q1, q2⟩ := Φ
      obtain ⟨m1, m2, rfl⟩ : ∃ k1 k2, y = [k1, k2] := by
        match y, q1 with
        | [a, b], _ => exact ⟨a, b, rfl⟩
      refine ss_frz (i := 7) rfl ?_
      dsimp only [List.set]
      repeat bv_omega
      try (refine dIx_list (d := kD m1) rfl ?_)
      repeat bv_omega
      try (refine dIx_list (d := kD m2) rfl ?_)
      repeat bv_omega
      first | exact ⟨m1, m2, rfl, q2 m1 (.head _), q2 m2 (.tail _ (.head _))⟩ | exact ⟨q2 m1 (.head _), q2 m2 (.tail _ (.head _))⟩

end
section
/-! FkH3: parts, stirred. -/
variable {T : Addr × Str} {K : PySem.W.Frag}
abbrev C_law_parts : Ct := ⟨House × Know, fun a => [kD a.2], fun a => HOk a.1 ∧ Vk a.1 a.2, fun a d => ∃ ps : List (List Int), d = .list (ps.map lI) ∧ ps.flatten = a.2.1 ∧ ps.length ≤ 100⟩
theorem d_law_parts : DOk (t__law_parts K (spP C_cuts_of) (spP C_law_flat)) C_law_parts n__law_parts 1 := by
  rintro ⟨⟨n, rooms⟩, o, ws⟩ ⟨hh, hv⟩ M
  have hh : HOk (n, rooms) := hh
  have hv : Vk (n, rooms) (o, ws) := hv
  have n1 : n ≤ 16 := hh.n1
  have m1 : rooms.length ≤ 4 := hh.m1
  have hol : o.length = n.toNat := hv.len
  have hnf : ws.length = rooms.length := hv.nf
  have hk := hv.kok hh
  have hwl : ∀ w ∈ ws, w.length = o.length + 1 := hk.len
  have hcl : ∀ w ∈ ws, (cutsL w).length ≤ 15 := fun w hw => by
    have := List.length_filter_le (isCut w) ((List.range (w.length - 2)).map (· + 1))
    have e := hwl w hw
    unfold cutsL
    simp only [List.length_map, List.length_range] at this
    omega
  show SS M (t__law_parts K _ _) [.dat (kD (o, ws)), .no, .no, .no, .no] _ _
  unfold t__law_parts
  try with_reducible refine ss_seq ?_
  refine ss_par (by simp) (by simp) (by decide) ?_
  refine ws_own (wl_lst ?_)
  repeat bv_omega
  refine ws_dat ?_
  repeat bv_omega
  refine ws_nil ⟨_, _, rfl, ?_⟩
  dsimp only [List.set]
  try with_reducible refine ss_seq ?_
  with_reducible refine ss_forL [3] ?_
  repeat bv_omega
  refine lcOkM ws tI rfl (fun w => nI (cutsL w)) (sm_lt (by omega)) (fun i w hw => ?_) ?_
  · have := hwl w (List.mem_of_getElem? hw)
    dsimp only [wipeD, List.set]
    repeat bv_omega
    refine ⟨rfl, ?_⟩
    repeat bv_omega
    exact callOk w rfl (by show w.length ≤ 100000; omega) fun d h => h
  repeat bv_omega
  have hfl : ∀ l : List (List Int), (∀ w ∈ l, (cutsL w).length ≤ 15) → (l.map fun w => (cutsL w).map fun (c : Nat) => (c : Int)).flatten.length ≤ 15 * l.length := by
    intro l
    induction l with
    | nil => intro _; simp
    | cons w l ih =>
      intro h
      have h1 := ih fun v hv => h v (.tail _ hv)
      have h2 := h w (.head _)
      rw [List.map_cons, List.flatten_cons, List.length_append, List.length_map, List.length_cons]
      omega
  have hcs := hfl ws hcl
  generalize hcs0 : (ws.map fun w => (cutsL w).map fun (c : Nat) => (c : Int)).flatten = cs at hcs
  have hcsm : ∀ c ∈ cs, 0 ≤ c ∧ c ≤ n.toNat := fun c hc => by
    rw [← hcs0] at hc
    obtain ⟨l, hl, hc⟩ := List.mem_flatten.mp hc
    obtain ⟨w, hw, rfl⟩ := List.mem_map.mp hl
    obtain ⟨c', hc', rfl⟩ := List.mem_map.mp hc
    have := cuts_rng hc'
    have := hwl w hw
    omega
  have ecs : (ws.map fun w => (cutsL w).map fun (c : Nat) => PyData.int (c : Nat)).flatten = cs.map .int := by
    rw [← hcs0, List.map_flatten, List.map_map]
    congr 1
    refine List.map_congr_left fun w _ => ?_
    show _ = ((cutsL w).map fun (c : Nat) => (c : Int)).map PyData.int
    rw [List.map_map]
    rfl
  refine callOk (ws.map fun w => (cutsL w).map fun (c : Nat) => PyData.int (c : Nat)) (by simp [Function.comp_def]) (by show (List.flatten _).length ≤ _; rw [ecs, List.length_map]; omega) ?_
  rintro d rfl
  show WA M tNil _ _
  rw [ecs]
  repeat bv_omega
  refine ⟨by omega, fun ms hms hmem hml => ?_⟩
  repeat bv_omega
  refine dAdd_list (ys := [.int ((o.map PyData.int).length : Nat)]) (by rw [sizeLine_eq]; simp; omega) ?_
  have e2 : ms.map PyData.int ++ [PyData.int ((o.map PyData.int).length : Nat)] = (ms ++ [(n.toNat : Int)]).map .int := by simp [hol]
  rw [e2]
  have hms2 : (ms ++ [(n.toNat : Int)]).Pairwise (· ≤ ·) := by
    rw [List.pairwise_append]
    refine ⟨hms.imp fun h => Int.le_of_lt h, List.pairwise_singleton _ _, fun a ha b hb => ?_⟩
    rw [List.mem_singleton] at hb
    subst hb
    exact (hcsm a ((hmem a).mp ha)).2
  have hms3 : ∀ c ∈ ms ++ [(n.toNat : Int)], 0 ≤ c := fun c hc => by
    rcases List.mem_append.mp hc with z | z
    · exact (hcsm c ((hmem c).mp z)).1
    · simp at z
      omega
  have hmsl : (ms ++ [(n.toNat : Int)]).getLast? = some (n.toNat : Int) := by simp
  generalize hL : ms ++ [(n.toNat : Int)] = L at hms2 hms3 hmsl
  have hLl : L.length ≤ 100 := by rw [← hL]; simp; omega
  repeat bv_omega
  refine forOkE (β := List (List Int) × Int) L .int rfl (fun y => [.dat (kD (o, ws)), .own (y.1.map lI), .dat (.int y.2), .no, .no]) (fun i y => y.1.length = i ∧ 0 ≤ y.2 ∧ y.1.flatten = o.take y.2.toNat ∧ (∀ j, i = j + 1 → L[j]? = some y.2) ∧ (i = 0 → y.2 = 0)) ([], 0) ⟨rfl, Int.le_refl _, by simp, (fun j h => by cases h), fun _ => rfl⟩ (Le.refl _) (fun i c y hi Φ => ?_) fun y Φ => ?_
  · obtain ⟨acc, last⟩ := y
    obtain ⟨p1, p2, p3, p4, p5⟩ := Φ
    have p1 : acc.length = i := p1
    have p2 : 0 ≤ last := p2
    have p3 : acc.flatten = o.take last.toNat := p3
    have p4 : ∀ j, i = j + 1 → L[j]? = some last := p4
    have p5 : i = 0 → last = 0 := p5
    have hil := (List.getElem?_eq_some_iff.mp hi).1
    have hc0 := hms3 c (List.mem_of_getElem? hi)
    have hlc : last ≤ c := by
      cases i with
      | zero => rw [p5 rfl]; exact hc0
      | succ j =>
        have a := p4 j rfl
        have a1 := List.getElem?_eq_some_iff.mp a
        have b1 := List.getElem?_eq_some_iff.mp hi
        have := (List.pairwise_iff_getElem.mp hms2) j (j + 1) a1.1 b1.1 (Nat.lt_succ_self _)
        rw [a1.2, b1.2] at this
        exact this
    repeat bv_omega
    dsimp only [List.set]
    try with_reducible refine ss_seq ?_
    refine ss_append rfl ?_
    refine we_of_wl (wl_list ?_)
    repeat bv_omega
    rw [(Int.toNat_of_nonneg p2).symm, (Int.toNat_of_nonneg hc0).symm, cutI]
    repeat bv_omega
    refine ⟨sm_lt (by rw [List.length_map]; omega), ?_⟩
    dsimp only [List.set]
    refine ss_set ?_
    repeat bv_omega
    dsimp only [List.set]
    refine ⟨(acc ++ [(o.drop last.toNat).take (c.toNat - last.toNat)], c), ⟨by simp; omega, hc0, ?_, fun j hj => ?_, (fun h => by omega)⟩, by simp only [List.map_append, Int.toNat_of_nonneg hc0]; symm_saturate⟩
    · rw [List.flatten_append, p3]
      show o.take last.toNat ++ ([(o.drop last.toNat).take (c.toNat - last.toNat)]).flatten = o.take c.toNat
      rw [List.flatten_cons, List.flatten_nil, List.append_nil]
      have : c.toNat = last.toNat + (c.toNat - last.toNat) := by omega
      conv => rhs; rw [this, List.take_add]
    · have : j = i := by omega
      subst this
      exact hi
  · obtain ⟨acc, last⟩ := y
    obtain ⟨p1, p2, p3, p4, p5⟩ := Φ
    have p1 : acc.length = L.length := p1
    have hLne : L ≠ [] := fun e => by rw [e] at hmsl; cases hmsl
    have hLp : 0 < L.length := List.length_pos_iff.mpr hLne
    have hlast : last = n.toNat := by
      have a := p4 (L.length - 1) (by omega)
      rw [List.getLast?_eq_getElem?, a] at hmsl
      exact Option.some.inj hmsl
    have p3 : acc.flatten = o.take last.toNat := p3
    rw [hlast, Int.toNat_natCast, List.take_of_length_le (by omega)] at p3
    refine ss_frz (i := 1) rfl ?_
    dsimp only [List.set]
    repeat bv_omega
    exact ⟨p3, by omega⟩
theorem d_law_stirred : DOkB T (t__law_stirred K (spP C_law_parts) (spB T C_law_mixed) (spP C_law_flat)) C_of_known n__law_stirred 2 := by
  rintro ⟨⟨n, rooms⟩, o, ws⟩ ⟨hh, hv⟩ M hT
  have hh : HOk (n, rooms) := hh
  have hv : Vk (n, rooms) (o, ws) := hv
  have n1 : n ≤ 16 := hh.n1
  have hol : o.length = n.toNat := hv.len
  show SS M (t__law_stirred K _ _ _) [.bag, .dat (kD (o, ws)), .no] _ _
  unfold t__law_stirred
  repeat bv_omega
  refine callOk ((n, rooms), o, ws) rfl ⟨hh, hv⟩ ?_
  rintro d ⟨ps, rfl, hps, hpl⟩
  have hps : ps.flatten = o := hps
  have hpe : ∀ p ∈ ps, p.length ≤ 16 := fun p hp => by
    have : p.length ≤ ps.flatten.length := (List.sublist_flatten_of_mem hp).length_le
    rw [hps] at this
    omega
  repeat bv_omega
  refine lcOkR ps lI rfl (fun p d => ∃ q : List Int, d = lI q ∧ q.Perm p) (sm_lt (by omega)) (fun i p hp => ?_) fun ds hdl hds => ?_
  · have := hpe p (List.mem_of_getElem? hp)
    dsimp only [wipeD, List.set]
    repeat bv_omega
    refine ⟨rfl, ?_⟩
    repeat bv_omega
    refine callOk (p.map .int) rfl (by show (List.map _ _).length ≤ _; rw [List.length_map]; omega) ?_
    rintro d ⟨ys, rfl, hys⟩
    obtain ⟨q, rfl, hq⟩ := perm_ints hys
    exact ⟨q, rfl, hq⟩
  obtain ⟨qs, rfl, hqp⟩ : ∃ qs : List (List Int), ds = qs.map (fun q => PyData.list (q.map .int)) ∧ qs.flatten.Perm ps.flatten := by
    have : ∀ (ps : List (List Int)) (ds : List D), ds.length = ps.length → (∀ (i : Nat) (p : List Int) (d : D), ps[i]? = some p → ds[i]? = some d → ∃ q : List Int, d = lI q ∧ q.Perm p) → ∃ qs : List (List Int), ds = qs.map (fun q => PyData.list (q.map .int)) ∧ qs.flatten.Perm ps.flatten := by
      intro ps
      induction ps with
      | nil => intro ds hl _; exact ⟨[], by rw [List.eq_nil_of_length_eq_zero hl]; rfl, List.Perm.refl _⟩
      | cons p ps ih =>
        intro ds hl hd
        cases ds with
        | nil => cases hl
        | cons d ds =>
          obtain ⟨qs, e, hq⟩ := ih ds (by simpa using hl) fun i p d h1 h2 => hd (i + 1) p d h1 h2
          obtain ⟨q, rfl, hp⟩ := hd 0 p d rfl rfl
          exact ⟨q :: qs, by rw [e]; rfl, by rw [List.flatten_cons, List.flatten_cons]; exact hp.append hq⟩
    exact this ps ds hdl hds
  repeat bv_omega
  have ef : (qs.map fun q => q.map PyData.int).flatten = qs.flatten.map .int := by rw [List.map_flatten]
  refine callOk (qs.map fun q => q.map PyData.int) (by simp [Function.comp_def]) (by show (List.flatten _).length ≤ _; rw [ef, List.length_map, hqp.length_eq, hps]; omega) ?_
  rintro d rfl
  repeat bv_omega
  refine ⟨(qs.flatten, ws), by simp only [ef], hv.perm' ?_⟩
  show qs.flatten.Perm o
  rw [← hps]
  exact hqp

end
section
/-! FkH4: _law_sharper: rows that are lists written in their place. -/
variable {T : Addr × Str} {K : PySem.W.Frag}
def Free (M : Mx) (G : Hp) (a : Addr) : Prop := G a = none ∧ M.H0 a = none ∧ NotB M.B a
def RowAt (M : Mx) (G H : Hp) (n : Nat) (a : Addr) : Prop := Free M G a ∧ ∃ ns : List Int, ns.length = n + 1 ∧ H a = some (.lst (ns.map V.int))
def Rows (M : Mx) (G H : Hp) (n : Nat) (L : Addr) (as : List Addr) : Prop := H L = some (.lst (as.map V.ref)) ∧ Free M G L ∧ ∀ a ∈ as, a ≠ L ∧ RowAt M G H n a
section
variable {M : Mx} {G H G' H' : Hp} {n : Nat} {L : Addr} {as : List Addr}
theorem RowAt.step {a : Addr} (r : RowAt M G H n a) (t : Stp M.B G H G' H') : RowAt M G' H' n a := by
  obtain ⟨⟨f1, f2, f3⟩, ns, e, h⟩ := r
  exact ⟨⟨t.fr a (ne_none h) f1, f2, f3⟩, ns, e, t.hh _ _ f3 h⟩
theorem Rows.step (r : Rows M G H n L as) (t : Stp M.B G H G' H') : Rows M G' H' n L as := by
  obtain ⟨h, ⟨f1, f2, f3⟩, ha⟩ := r
  exact ⟨t.hh _ _ f3 h, ⟨t.fr L (ne_none h) f1, f2, f3⟩, fun a m => ⟨(ha a m).1, (ha a m).2.step t⟩⟩
/-- a list that no slot knows is written -/
theorem SR.wr {σ : L2.St} {δ : List SD} (s : SR M G H σ δ) {a : Addr} {us ws : List V} (f : Free M G a) (hl : H a = some (.lst us)) (no : ∀ (j : Nat) (ys : List D), δ[j]? ≠ some (.own ys)) : SR M G (upd H a (.lst ws)) σ δ := by
  obtain ⟨f1, f2, f3⟩ := f
  have nG : ∀ b u, G b = some u → b ≠ a := fun b u e z => by rw [z, f1] at e; cases e
  refine ⟨⟨fun b u e => by rw [upd_ne (nG b u e)]; exact s.ok.gh b u e, fun b c hb => ?_, fun P q hp => ?_⟩, ⟨s.st.gg, fun b u n e => ?_, s.st.fr, fun b e => ?_⟩, s.len, fun j sd h => ?_, s.ds⟩
  · obtain ⟨k1, k2, x, y, w, ns, q1, q2, q3⟩ := s.ok.bag b c hb
    obtain ⟨u, hu⟩ := some_of k2
    exact ⟨k1, k2, x, y, w, ns, by rw [upd_ne (f3.1 (b, c) hb).symm]; exact q1, by rw [upd_ne (nG c u hu)]; exact q2, q3⟩
  · obtain ⟨k1, ps, q1, q2, q3⟩ := s.ok.tab P q hp
    refine ⟨k1, ps, by rw [upd_ne (f3.2 (P, q) hp).symm]; exact q1, q2, fun pos cv hc => ?_⟩
    obtain ⟨c, e1, e2⟩ := q3 pos cv hc
    exact ⟨c, e1, by rw [upd_ne (ne_of e2 hl (fun z => nomatch z))]; exact e2⟩
  · rw [upd_ne (ne_of_none e f2)]
    exact s.st.hh b u n e
  · by_cases z : b = a
    · rw [z, upd_same]; exact fun z => nomatch z
    · rw [upd_ne z]; exact s.st.th b e
  · have q := s.sl j sd h
    cases sd with
    | no => trivial
    | dat d => exact q
    | own zs => exact absurd h (no j zs)
    | bag => exact q
/- the rows stand still from now on: the list of them as data -/
open Classical in
theorem Rows.freeze {σ : L2.St} {δ : List SD} (s : SR M G H σ δ) (r : Rows M G H n L as) (no : ∀ (j : Nat) (ys : List D), δ[j]? ≠ some (.own ys)) :
    ∃ (G2 : Hp) (rows : List (List Int)), Same G G2 ∧ SR M G2 H σ δ ∧ rows.length = as.length ∧ (∀ w ∈ rows, w.length = n + 1) ∧ Rp G2 (.ref L) (.list (rows.map lI)) := by
  obtain ⟨hL, ⟨l1, l2, l3⟩, ha⟩ := r
  let G2 : Hp := fun a => if a = L ∨ a ∈ as then H a else G a
  have hin : ∀ a, (a = L ∨ a ∈ as) → Free M G a := fun a h => by
    rcases h with rfl | h
    · exact ⟨l1, l2, l3⟩
    · exact (ha a h).2.1
  have e1 : Same G G2 := fun a u e => by
    show (if _ then _ else _) = _
    rw [if_neg]
    · exact e
    · intro h
      rw [(hin a h).1] at e
      cases e
  have e2 : Same G2 H := fun a u e => by
    have e : (if a = L ∨ a ∈ as then H a else G a) = some u := e
    split at e
    · exact e
    · exact s.ok.gh a u e
  have out : ∀ a, ¬ (a = L ∨ a ∈ as) → G a = none → G2 a = none := fun a h g => by
    show (if _ then _ else _) = _
    rw [if_neg h]
    exact g
  have key : ∀ l : List Addr, (∀ a ∈ l, a ∈ as) → ∃ rows : List (List Int), rows.length = l.length ∧ (∀ w ∈ rows, w.length = n + 1) ∧ RpA G2 (l.map V.ref) (rows.map lI) := by
    intro l
    induction l with
    | nil => intro _; exact ⟨[], rfl, (fun w h => by cases h), .nil⟩
    | cons a l ih =>
      intro hl
      obtain ⟨rows, q1, q2, q3⟩ := ih fun b hb => hl b (.tail _ hb)
      obtain ⟨_, _, ns, q4, q5⟩ := ha a (hl a (.head _))
      refine ⟨ns :: rows, by simp [q1], fun w hw => ?_, .cons (.lst (xs := ns.map V.int) ?_ (RpA.ints ns)) q3⟩
      · rcases List.mem_cons.mp hw with rfl | z
        · exact q4
        · exact q2 w z
      · show (if _ then _ else _) = _
        rw [if_pos (.inr (hl a (.head _)))]
        exact q5
  obtain ⟨rows, q1, q2, q3⟩ := key as fun a h => h
  refine ⟨G2, rows, e1, ⟨⟨e2, fun b c hb => ?_, fun P q hp => ?_⟩, ⟨s.st.gg.trans e1, s.st.hh, fun a q g => ?_, s.st.th⟩, s.len, fun j sd h => ?_, s.ds⟩, q1, q2, .lst (xs := as.map V.ref) ?_ q3⟩
  · obtain ⟨k1, k2, k3⟩ := s.ok.bag b c hb
    obtain ⟨u, hu⟩ := some_of k2
    exact ⟨out b (fun h => (hin b h).2.2.1 (b, c) hb rfl) k1, ne_none (e1 _ _ hu), k3⟩
  · obtain ⟨k1, k2⟩ := s.ok.tab P q hp
    exact ⟨out P (fun h => (hin P h).2.2.2 (P, q) hp rfl) k1, k2⟩
  · refine out a (fun h => q (hin a h).2.1) (s.st.fr a q g)
  · have q := s.sl j sd h
    cases sd with
    | no => trivial
    | dat d =>
      obtain ⟨v, f1, f2⟩ := q
      exact ⟨v, f1, f2.mono e1⟩
    | own zs => exact absurd h (no j zs)
    | bag => exact q
  · show (if _ then _ else _) = _
    rw [if_pos (.inl rfl)]
    exact hL
/-- [list(w) for w in ws] -/
theorem rows_lc {σ : L2.St} {δ : List SD} {wi : TI} {ws : List (List Int)} {v : Nat} (s : SR M G H σ δ) (hv : v < δ.length) (h : WJ M wi δ (fun xs => xs = ws.map tI)) (hw : ∀ w ∈ ws, w.length = n + 1) (hz : ws.length ≤ 1000) {Q : VK}
    (q : ∀ L as G' H', Stp M.B G H G' H' → Ok M.B G' H' → Rows M G' H' n L as → as.length = ws.length → Q (.ref L) H') : tLc wi (gName v) tYes (tCB (fun xs H Q => ∃ p ys, xs = [.ref p] ∧ (SqL K H p ys ∨ SqT K H p ys) ∧ ∀ l, H l = none → Q (.ref l) (upd H l (.lst ys))) (tCons (tVar v) tNil)) [v] σ H Q := by
  refine h G H σ s _ fun xs J G1 H1 e st ok j D hD => ?_
  subst e
  have hD0 := s.fresh (show H D = none by
    cases e : H D with
    | none => rfl
    | some o => exact absurd hD (st.th D (ne_none e)))
  have nD : NotB M.B D := ok.notB hD
  have sl : v < (L2.wipe σ [v]).length := by rw [L2.wipe_length, s.len]; exact hv
  refine ⟨fun i m H' => m = ws.length - i ∧ i ≤ ws.length ∧ ∃ G' as, as.length = i ∧ Stp M.B G1 H1 G' H' ∧ Ok M.B G' H' ∧ Rows M G' H' n D as, ?_, ?_⟩
  · obtain ⟨st2, ok2⟩ := Stp.newH ok (.lst []) hD
    exact ⟨ws.length, by simp, Nat.zero_le _, G1, [], rfl, st2, ok2, upd_same, ⟨ok.free hD, hD0, nD⟩, fun a h => by cases h⟩
  rintro i m H' ⟨rfl, hi, G', as, ha, st', ok', hR⟩
  obtain ⟨j1, j2, j3⟩ := j G' H' st' ok'
  rw [List.length_map] at j1 j2 j3
  by_cases hlt : i < ws.length
  · refine .inr ⟨j1 i hlt, fun H2 => ∃ G2 as, as.length = i + 1 ∧ Stp M.B G1 H1 G2 H2 ∧ Ok M.B G2 H2 ∧ Rows M G2 H2 n D as, fun H2 ⟨G2, as, z⟩ => ⟨ws.length - (i + 1), by omega, rfl, hlt, G2, as, z⟩, fun x H2 y => ?_⟩
    obtain ⟨G2, d, st2, ok2, ed, px⟩ := j3 i x H2 hlt y
    obtain ⟨w, hwi⟩ : ∃ w, ws[i]? = some w := ⟨_, List.getElem?_eq_getElem hlt⟩
    rw [List.getElem?_map, hwi] at ed
    cases ed
    obtain ⟨a, us, rfl, hat, ra⟩ := px.tup_inv
    rw [ra.of_ints] at hat
    refine ⟨?_, ?_⟩
    · show L2.wipe ((L2.wipe σ [v]).set v (some (.ref a))) [v] = L2.wipe σ [v]
      refine wipe_of [v] (by rw [List.length_set, L2.wipe_length]) fun k hk => ?_
      rw [List.getElem?_set_ne (fun e => hk (by rw [e]; exact .head _))]
    · unfold tYes
      dsimp only
      rw [if_pos rfl]
      refine ⟨.ref a, List.getElem?_set_self sl, a, w.map V.int, rfl, .inr (hat.same ok2.gh).sq, fun l hl => ?_⟩
      have hR2 := hR.step st2
      obtain ⟨st3, ok3⟩ := Stp.newH ok2 (.lst (w.map V.int)) hl
      have hR3 := hR2.step st3
      obtain ⟨r1, r2, r3⟩ := hR3
      have hlD : l ≠ D := fun e => by rw [e] at hl; rw [hR2.1] at hl; cases hl
      have hlas : ∀ b ∈ as, b ≠ l := fun b hb e => by
        obtain ⟨_, _, ns, _, q5⟩ := hR2.2.2 b hb
        rw [e, hl] at q5
        cases q5
      have hl1 : H1 l = none := by
        cases e : H1 l with
        | none => rfl
        | some o => exact absurd hl ((st'.trans st2).th l (ne_none e))
      have hl0 : M.H0 l = none := s.fresh (by
        cases e : H l with
        | none => rfl
        | some o => exact absurd hl1 (st.th l (ne_none e)))
      refine ⟨as.map V.ref, r1, by rw [List.length_map]; rw [sizeLine_eq]; omega, G2, as ++ [l], by simp [ha], ?_, ?_, ?_⟩
      · have stt := st'.trans (st2.trans st3)
        refine ⟨stt.gg, fun b o nb e => ?_, stt.fr, fun b e => ?_⟩
        · rw [upd_ne (ne_of_none e hD)]
          exact stt.hh b o nb e
        · by_cases z : b = D
          · rw [z, upd_same]; exact fun z => nomatch z
          · rw [upd_ne z]; exact stt.th b e
      · obtain ⟨g1, g2, g3⟩ := r2
        refine ⟨fun b u e => ?_, fun b c hb => ?_, fun P q hp => ?_⟩
        · rw [upd_ne (fun z => by rw [z, g1] at e; cases e)]
          exact ok3.gh b u e
        · obtain ⟨k1, k2, x, y, w', ns, q1, q2, q3⟩ := ok3.bag b c hb
          obtain ⟨u, hu⟩ := some_of k2
          exact ⟨k1, k2, x, y, w', ns, by rw [upd_ne (nD.1 (b, c) hb).symm]; exact q1, by rw [upd_ne (fun z => by rw [z, g1] at hu; cases hu)]; exact q2, q3⟩
        · obtain ⟨k1, ps, q1, q2, q3⟩ := ok3.tab P q hp
          refine ⟨k1, ps, by rw [upd_ne (nD.2 (P, q) hp).symm]; exact q1, q2, fun pos cv hc => ?_⟩
          obtain ⟨c, e1, e2⟩ := q3 pos cv hc
          exact ⟨c, e1, by rw [upd_ne (ne_of e2 r1 (fun z => nomatch z))]; exact e2⟩
      · refine ⟨by rw [upd_same, List.map_append]; rfl, r2, fun b hb => ?_⟩
        rcases List.mem_append.mp hb with z | z
        · obtain ⟨n1, f, ns, e, hb2⟩ := r3 b z
          exact ⟨n1, f, ns, e, by rw [upd_ne n1]; exact hb2⟩
        · rw [List.mem_singleton] at z
          subst z
          exact ⟨hlD, ⟨ok2.free hl, hl0, ok2.notB hl⟩, w, hw w (List.mem_of_getElem? hwi), by rw [upd_ne hlD, upd_same]⟩
  · have ei : i = ws.length := by omega
    subst ei
    exact .inl ⟨j2, q D as G' H' (st.trans st') ok' hR ha⟩
end
/-- one of a list's items, the item itself -/
def spOne (T : Addr × Str) : Sp := fun vs H Q _ => ∃ (b c l : Addr) (G : Hp) (us : List V), vs = [.ref b, .ref l] ∧ Ok { bag := some (b, c), tab := some T } G H ∧ H l = some (.lst us) ∧ us ≠ [] ∧ us.length ≤ 1000 ∧ NotB { bag := some (b, c), tab := some T } l ∧
  ∀ (i : Nat) (v : V) (G' H' : Hp), us[i]? = some v → Stp { bag := some (b, c), tab := some T } G H G' H' → Ok { bag := some (b, c), tab := some T } G' H' → Q v H'
theorem one_raw {vs : List V} {H : Hp} {Q : VK} {E : XK} (h : spOne T vs H Q E) : vs.length = 2 ∧ t__law_one K (spB T C_law_take) { nx := fun _ H' => Q .non H', rt := Q } (L2.start n__law_one vs) H := by
  obtain ⟨b, c, l, G, us, rfl, ok, hl, hne, hz, nb, q⟩ := h
  have hpos : 0 < us.length := List.length_pos_iff.mpr hne
  refine ⟨rfl, .ref l, rfl, .ref b, rfl, .ref l, rfl, l, us, rfl, .inl (SqL.of hl), b, c, [.int us.length], rfl, G, (us.length : Int), ok, .cons (.int _) .nil, ⟨by omega, by omega⟩, ?_⟩
  rintro d v G' H' ⟨x, rfl, x0, x1⟩ st ok' p
  have x1 : x < (us.length : Int) := x1
  have ev := p.int_inv
  subst ev
  obtain ⟨u, hu⟩ : ∃ u, us[x.toNat]? = some u := ⟨_, List.getElem?_eq_getElem (by omega)⟩
  refine .inl ⟨l, us, x, u, rfl, rfl, SqL.of (st.hh _ _ nb hl), ?_, q x.toNat u G' H' hu st ok'⟩
  rw [(Int.toNat_of_nonneg x0).symm]
  exact atI_lt hu
section
variable {M : Mx} {δ : List SD} {R : D → Prop} {te : TE}
theorem we_one {E : XK} {i : Nat} (hT : M.B.tab = some T) (hb : δ[i]? = some .bag) (h : WL M te δ (fun ds => ds ≠ [] ∧ ds.length ≤ 1000 ∧ ∀ d ∈ ds, R d)) : WE M (tCall (spOne T) [] E (tCons (tVar i) (tCons te tNil))) δ R := fun G H σ s Q q => by
  obtain ⟨b, c, e1, e2⟩ := s.sl i _ hb
  have eB : M.B = { bag := some (b, c), tab := some T } := by
    have : M.B = ⟨M.B.bag, M.B.tab⟩ := rfl
    rw [this, e1, hT]
  refine ⟨.ref b, e2, h G H σ s _ fun ds p vs G1 H1 ⟨hne, hz, hr⟩ st ok hp hg hh ra => ?_⟩
  show spOne T [.ref b, .ref p] H1 Q E
  have hl := ra.length
  refine ⟨b, c, p, G1, vs, rfl, eB ▸ ok, hh, fun e => hne ((ra.nil_iff).mp e), by rw [hl]; exact hz, eB ▸ s.ok.notB hp, fun j v G' H' hj st2 ok2 => ?_⟩
  rw [← eB] at st2 ok2
  obtain ⟨d, hd, pd⟩ := ra.getV hj
  exact q d v G' H' (hr d (List.mem_of_getElem? hd)) (st.trans st2) ok2 (pd.mono st2.gg)
theorem SR.know {G H : Hp} {σ : L2.St} (s : SR M G H σ δ) {i : Nat} {v : V} {d : D} (hi : σ[i]? = some (some v)) (p : Rp G v d) : SR M G H σ (δ.set i (.dat d)) := by
  have s2 := s.setDat i p
  have e : σ.set i (some v) = σ := by
    refine List.ext_getElem? fun j => ?_
    by_cases e : i = j
    · subst e
      rw [List.getElem?_set_self (List.getElem?_eq_some_iff.mp hi).1, hi]
    · rw [List.getElem?_set_ne e]
  rw [e] at s2
  exact s2
end
theorem seq_asg {te : TE} {g : TG} {u : TS} {Dn : Ends} {σ : L2.St} {H : Hp} (h : te σ H (fun x H1 => g x σ H1 (u Dn))) : tSeq (tAsg te g) u Dn σ H := h
theorem seq_for {wi : TI} {g : TG} {tb u : TS} {Dn : Ends} {σ : L2.St} {H : Hp} (h : wi σ H fun J H1 => ∃ W : Nat → Nat → L2.St → Hp → Prop, (∃ m, W 0 m σ H1) ∧ ∀ i m σ H, W i m σ H →
  (J.stop i H ∧ u Dn σ H) ∨ (J.go i H ∧ ∃ N : L2.St → Hp → Prop, (∀ σ' H', N σ' H' → ∃ m', m' < m ∧ W (i + 1) m' σ' H') ∧ ∀ x H', J.yld i H x H' → g x σ H' fun σ2 H2 => tb { Dn with nx := N, ct := N, bk := u Dn } σ2 H2)) : tSeq (tFor wi g tb) u Dn σ H := h
theorem d_law_sharper : DOkB T (t__law_sharper K (spP C_known_sizes) (spP C_law_tightened) (spOne T) (spB T C_law_take)) C_of_known n__law_sharper 2 := by
  rintro ⟨⟨n, rooms⟩, o, ws⟩ ⟨hh, hv⟩ M hT
  have hh : HOk (n, rooms) := hh
  have hv : Vk (n, rooms) (o, ws) := hv
  have n1 : n ≤ 16 := hh.n1
  have m0 : 1 ≤ rooms.length := hh.m0
  have m1 : rooms.length ≤ 4 := hh.m1
  have hol : o.length = n.toNat := hv.len
  have hnf : ws.length = rooms.length := hv.nf
  have hk := hv.kok hh
  have hwl : ∀ w ∈ ws, w.length = n.toNat + 1 := fun w hw => by have : w.length = o.length + 1 := hk.len w hw; omega
  have hsz := hv.sz hh
  have hszl : (ksz (o, ws)).length = rooms.length := hsz.len
  show SS M (t__law_sharper K _ _ _ _) [.bag, .dat (kD (o, ws)), .no, .no, .no, .no, .no, .no] _ _
  unfold t__law_sharper
  -- what is left when the rows stand still
  have last : ∀ rows : List (List Int), rows.length = rooms.length → (∀ w ∈ rows, w.length = n.toNat + 1) → SS M (tSeq (tAsg (tCall (spP C_law_tightened) [] E0 (tCons (tCB (rTupOf) (tCons (tLc (iSeq K (tVar 2)) (gName 4) tYes (tCB (rTupOf) (tCons (tVar 4) tNil)) [4]) tNil)) (tCons (tCall (spP C_known_sizes) [] E0 (tCons (tVar 1) tNil)) tNil))) (gName 6))
      (tRet (tIf (tTest (tOp (rIsN) (tVar 6) (tC .non))) (tVar 1) (tTupF (tCons (tOp (rIx K) (tVar 1) (tC (.int 0))) (tCons (tVar 6) tNil))))))
      [.bag, .dat (kD (o, ws)), .dat (.list (rows.map lI)), .no, .no, .no, .no, .no] (fun _ => C_of_known.post ((n, rooms), o, ws) .none) ⟨C_of_known.post ((n, rooms), o, ws), fun _ => False, fun _ => False⟩ := fun rows hrl hr => by
    try with_reducible refine ss_seq ?_
    refine ss_set ?_
    repeat bv_omega
    refine lcOkM rows lI rfl tI (sm_lt (by omega)) (fun i w hw => ?_) ?_
    · dsimp only [wipeD, List.set]
      repeat bv_omega
      refine ⟨rfl, ?_⟩
      repeat bv_omega
    repeat bv_omega
    refine callOk (o, ws) rfl ⟨hk.sw, hk.ne⟩ ?_
    rintro d rfl
    repeat bv_omega
    refine callOk (rows, ksz (o, ws), n.toNat) rfl ⟨by show rows ≠ []; intro e; rw [e] at hrl; simp at hrl; omega, by show rows.length = (ksz (o, ws)).length; omega, by show rows.length ≤ 100; omega, by show n.toNat ≤ 100; omega, hr⟩ ?_
    rintro d (⟨rfl, _⟩ | ⟨tw, rfl, ht⟩)
    · dsimp only [List.set]
      repeat bv_omega
      refine ⟨rfl, true, rfl, fun _ => ?_, (fun z => nomatch z)⟩
      repeat bv_omega
      try exact ⟨(o, ws), rfl, hv⟩
    · dsimp only [List.set]
      repeat bv_omega
      refine ⟨rfl, false, rfl, (fun z => nomatch z), fun _ => ?_⟩
      repeat bv_omega
      exact ⟨(o, tw), rfl, Vk.of hv.perm hsz ht⟩
  intro G H σ s Dn nx bk ct rt
  have no : ∀ (j : Nat) (ys : List D), ([.bag, .dat (kD (o, ws)), .no, .no, .no, .no, .no, .no] : List SD)[j]? ≠ some (.own ys) := by
    intro j ys h
    match j, h with
    | 0, h => cases h
    | 1, h => cases h
    | 2, h => cases h
    | 3, h => cases h
    | 4, h => cases h
    | 5, h => cases h
    | 6, h => cases h
    | 7, h => cases h
    | j + 8, h => simp at h
  refine seq_asg ?_
  refine rows_lc (K := K) (n := n.toNat) s (by show 7 < 8; decide) (wj_of (wi_seq ?_)) hwl (by omega) fun L as G1 H1 st1 ok1 hR hal => ?_
  · repeat bv_omega
  have s1 : SR M G1 H1 (σ.set 2 (some (.ref L))) [.bag, .dat (kD (o, ws)), .no, .no, .no, .no, .no, .no] := (s.step st1 ok1).forget 2 (some (.ref L))
  have hs2 : (σ.set 2 (some (V.ref L)))[2]? = some (some (.ref L)) := List.getElem?_set_self (by have := s.len; simp at this; omega)
  show tSeq (tFor _ _ _) _ Dn (σ.set 2 (some (V.ref L))) H1
  generalize σ.set 2 (some (V.ref L)) = σ1 at s1 hs2
  have hne : as ≠ [] := fun e => by rw [e] at hal; simp at hal; omega
  have hwi : WI M (iRng1 (tCons (tCall (spOne T) [] E0 (tCons (tVar 0) (tCons (tLst (tCons (tC (.int 1)) (tCons (tC (.int 1)) (tCons (tC (.int 2)) tNil)))) tNil))) tNil)) [.bag, .dat (kD (o, ws)), .no, .no, .no, .no, .no, .no] (fun xs => ∃ k : Nat, xs = rgD 0 k) := by
    refine wi_rng1 ?_
    repeat bv_omega
    refine we_one hT rfl (wl_lst ?_)
    repeat bv_omega
    refine ⟨by simp, by simp, fun d hd => ?_⟩
    simp only [List.mem_cons, List.mem_nil_iff, or_false] at hd
    rcases hd with rfl | rfl | rfl
    · repeat bv_omega
      exact ⟨by decide, _, rfl⟩
    · repeat bv_omega
      exact ⟨by decide, _, rfl⟩
    · repeat bv_omega
      exact ⟨by decide, _, rfl⟩
  show tSeq (tFor _ _ _) _ Dn σ1 H1
  refine seq_for (hwi G1 H1 σ1 s1 _ fun xs J G2 H2 ⟨k, ek⟩ st2 ok2 j => ?_)
  subst ek
  rw [show JR M.B G2 J (rgD 0 k) = JR M.B G2 J (rgD 0 k) from rfl] at j
  refine ⟨fun i m σ' H' => m = k - i ∧ i ≤ k ∧ ∃ G', Same G2 G' ∧ SR M G' H' σ' [.bag, .dat (kD (o, ws)), .no, .no, .no, .no, .no, .no] ∧ σ'[2]? = some (some (.ref L)) ∧ Rows M G' H' n.toNat L as, ⟨k, by simp, Nat.zero_le _, G2, Same.refl _, s1.step st2 ok2, hs2, hR.step st2⟩, ?_⟩
  rintro i m σ' H' ⟨rfl, hi, G', gg, s', h2', hR'⟩
  obtain ⟨j1, j2, j3⟩ := j G' H' gg s'.ok
  rw [rgD_len] at j1 j2 j3
  by_cases hlt : i < k
  · refine .inr ⟨j1 i hlt, fun σ2 H2 => ∃ G3, Same G2 G3 ∧ SR M G3 H2 σ2 [.bag, .dat (kD (o, ws)), .no, .no, .no, .no, .no, .no] ∧ σ2[2]? = some (some (.ref L)) ∧ Rows M G3 H2 n.toNat L as, fun σ2 H2 ⟨G3, a, b, c, d⟩ => ⟨k - (i + 1), by omega, rfl, hlt, G3, a, b, c, d⟩, fun x H3 y => ?_⟩
    obtain ⟨G3, d, st3, ok3, _, _⟩ := j3 i x H3 hlt y
    have s3 : SR M G3 H3 (σ'.set 3 (some x)) [.bag, .dat (kD (o, ws)), .no, .no, .no, .no, .no, .no] := (s'.step st3 ok3).forget 3 (some x)
    have h23 : (σ'.set 3 (some x))[2]? = some (some (.ref L)) := by rw [List.getElem?_set_ne (by decide)]; exact h2'
    have hR3 := hR'.step st3
    have gg3 := gg.trans st3.gg
    show tSeq _ _ _ (σ'.set 3 (some x)) H3
    generalize σ'.set 3 (some x) = τ at s3 h23
    obtain ⟨b, c, eb, eτ⟩ := s3.sl 0 _ rfl
    have eB : M.B = { bag := some (b, c), tab := some T } := by
      have : M.B = ⟨M.B.bag, M.B.tab⟩ := rfl
      rw [this, eb, hT]
    -- a row
    refine ⟨.ref b, eτ, .ref L, h23, b, c, L, G3, as.map V.ref, rfl, eB ▸ s3.ok, hR3.1, by simpa using hne, by rw [List.length_map]; omega, eB ▸ hR3.2.1.2.2, fun q v G4 H4 hq st4 ok4 => ?_⟩
    rw [← eB] at st4 ok4
    rw [List.getElem?_map] at hq
    cases hqa : as[q]? with
    | none => rw [hqa] at hq; cases hq
    | some a =>
      rw [hqa] at hq
      cases hq
      have ham := List.mem_of_getElem? hqa
      have hR4 := hR3.step st4
      have τl : 8 = τ.length := by have := s3.len; simpa using this.symm
      have s4 : SR M G4 H4 (τ.set 4 (some (.ref a))) [.bag, .dat (kD (o, ws)), .no, .no, .no, .no, .no, .no] := (s3.step st4 ok4).forget 4 (some (.ref a))
      have h24 : (τ.set 4 (some (V.ref a)))[2]? = some (some (.ref L)) := by rw [List.getElem?_set_ne (by decide)]; exact h23
      have h44 : (τ.set 4 (some (V.ref a)))[4]? = some (some (.ref a)) := List.getElem?_set_self (by omega)
      have h04 : (τ.set 4 (some (V.ref a)))[0]? = some (some (.ref b)) := by rw [List.getElem?_set_ne (by decide)]; exact eτ
      have gg4 := gg3.trans st4.gg
      show tSeq _ _ _ (τ.set 4 (some (.ref a))) H4
      generalize τ.set 4 (some (V.ref a)) = υ at s4 h24 h44 h04
      have υl : 8 = υ.length := by have := s4.len; simpa using this.symm
      obtain ⟨_, ⟨f1, f2, f3⟩, ns, hnl, hns⟩ := hR4.2.2 a ham
      -- a place of it
      refine ⟨.ref b, h04, .ref a, h44, a, ns.map V.int, rfl, .inl (SqL.of hns), b, c, [.int (ns.map V.int).length], rfl, G4, ((ns.map V.int).length : Int), eB ▸ s4.ok, .cons (.int _) .nil, ⟨by rw [List.length_map]; omega, by rw [List.length_map]; omega⟩, ?_⟩
      rintro d v G5 H5 ⟨at', rfl, a0, a1⟩ st5 ok5 p
      rw [← eB] at st5 ok5
      have a1 : at' < ((ns.map V.int).length : Nat) := a1
      rw [List.length_map] at a1
      have ev := p.int_inv
      subst ev
      have hR5 := hR4.step st5
      have hns5 : H5 a = some (.lst (ns.map V.int)) := st5.hh _ _ f3 hns
      have s5 : SR M G5 H5 (υ.set 5 (some (.int at'))) [.bag, .dat (kD (o, ws)), .no, .no, .no, .no, .no, .no] := (s4.step st5 ok5).forget 5 (some (.int at'))
      have h25 : (υ.set 5 (some (V.int at')))[2]? = some (some (.ref L)) := by rw [List.getElem?_set_ne (by decide)]; exact h24
      have h45 : (υ.set 5 (some (V.int at')))[4]? = some (some (.ref a)) := by rw [List.getElem?_set_ne (by decide)]; exact h44
      have h55 : (υ.set 5 (some (V.int at')))[5]? = some (some (.int at')) := List.getElem?_set_self (by omega)
      have gg5 := gg4.trans st5.gg
      unfold gName
      dsimp only
      generalize υ.set 5 (some (V.int at')) = φ at s5 h25 h45 h55
      have ea : at' = (at'.toNat : Nat) := by omega
      have hlt2 : at'.toNat < ns.length := by omega
      have hat : atI (ns.map V.int) at' = some (.int (ns.getD at'.toNat 0)) := by
        rw [ea, Int.toNat_natCast]
        exact atI_lt (by rw [List.getElem?_map, getD_some hlt2]; rfl)
      have hfree : Free M G5 a := (hR5.2.2 a ham).2.1
      refine ⟨.ref a, h45, .int at', h55, .inl ⟨a, _, at', _, rfl, rfl, SqL.of hns5, hat, .inl ⟨_, 1, rfl, rfl, .ref a, h45, .int at', h55, a, _, at', at'.toNat, rfl, rfl, hns5, ?_, ?_⟩⟩⟩
      · have : ixN (ns.map V.int).length ((at'.toNat : Nat) : Int) = some at'.toNat := ixN_nat (by rw [List.length_map]; exact hlt2)
        rw [← ea] at this
        exact this
      refine ⟨G5, gg5, s5.wr hfree hns5 no, h25, ?_⟩
      obtain ⟨r1, r2, r3⟩ := hR5
      have haL := (r3 a ham).1
      refine ⟨by rw [upd_ne (Ne.symm haL)]; exact r1, r2, fun a2 h2 => ?_⟩
      obtain ⟨n1', f', ns2, e2, hns2⟩ := r3 a2 h2
      refine ⟨n1', f', ?_⟩
      by_cases e : a2 = a
      · subst e
        refine ⟨ns.set at'.toNat (ns.getD at'.toNat 0 + 1), by rw [List.length_set]; exact hnl, ?_⟩
        rw [upd_same, List.map_set]
      · exact ⟨ns2, e2, by rw [upd_ne e]; exact hns2⟩
  · have ei : i = k := by omega
    subst ei
    refine .inl ⟨j2, ?_⟩
    obtain ⟨G3, rows, gg3, s3, q1, q2, q3⟩ := Rows.freeze s' hR' no
    have s4 := s3.know h2' q3
    have gt := st1.gg.trans (st2.gg.trans (gg.trans gg3))
    exact last rows (by omega) q2 G3 H' σ' s4 Dn (fun δ2 G4 H4 σ4 n4 e4 => nx δ2 G4 H4 σ4 n4 (gt.trans e4)) (fun _ _ _ _ z => z.elim) (fun _ _ _ _ z => z.elim) fun d v G4 H4 r e4 => rt d v G4 H4 r (gt.trans e4)

end
section
/-! FkM1: plain mathematics of words and prefixes. -/
/-- a nodup list inside another has no more of a kind -/
theorem countP_sub (p : Int → Bool) : ∀ (l l' : List Int), l.Nodup → (∀ t ∈ l, t ∈ l') → l.countP p ≤ l'.countP p
  | [], _, _, _ => Nat.zero_le _
  | a :: t, l', hn, hs => by
    have ha : a ∈ l' := hs a (List.mem_cons_self ..)
    have hn' := List.nodup_cons.mp hn
    have ih := countP_sub p t (l'.erase a) hn'.2 fun x hx => (List.mem_erase_of_ne (fun (e : x = a) => hn'.1 (e ▸ hx))).mpr (hs x (List.mem_cons_of_mem _ hx))
    have e := (List.perm_cons_erase ha).countP_eq p
    rw [e, List.countP_cons, List.countP_cons]
    omega
theorem len_sub {l l' : List Int} (hn : l.Nodup) (hs : ∀ t ∈ l, t ∈ l') : l.length ≤ l'.length := by
  have := countP_sub (fun _ => true) l l' hn hs
  simpa using this
section
variable {o : List Int}
/-- how many of the first d are in p -/
def cP (o : List Int) (p : Int → Bool) (d : Nat) : Int := ((o.take d).countP p : Nat)
theorem cP_zero (p : Int → Bool) : cP o p 0 = 0 := rfl
theorem cP_nn (p : Int → Bool) (d : Nat) : 0 ≤ cP o p d := Int.natCast_nonneg _
theorem cP_succ (p : Int → Bool) {d : Nat} {t : Int} (h : o[d]? = some t) : cP o p (d + 1) = cP o p d + (if p t = true then 1 else 0) := cnt_snoc p h
theorem cP_step (p : Int → Bool) (d : Nat) : cP o p d ≤ cP o p (d + 1) ∧ cP o p (d + 1) ≤ cP o p d + 1 := by
  cases h : o[d]? with
  | none =>
    have hl := List.getElem?_eq_none_iff.mp h
    have e : o.take (d + 1) = o.take d := by rw [List.take_of_length_le (by omega), List.take_of_length_le hl]
    unfold cP
    rw [e]
    omega
  | some t =>
    rw [cP_succ p h]
    split <;> omega
theorem cP_mono (p : Int → Bool) (d : Nat) : ∀ j, cP o p d ≤ cP o p (d + j) ∧ cP o p (d + j) ≤ cP o p d + j
  | 0 => ⟨Int.le_refl _, by simp⟩
  | j + 1 => by
    have a := cP_mono p d j
    have b := cP_step (o := o) p (d + j)
    have e : d + (j + 1) = d + j + 1 := rfl
    rw [e]
    omega
theorem cP_le {p q : Int → Bool} {d : Nat} (h : ∀ t ∈ o.take d, p t = true → q t = true) : cP o p d ≤ cP o q d := Int.ofNat_le.mpr (List.countP_mono_left h)
theorem cP_congr {p q : Int → Bool} {d : Nat} (h : ∀ t ∈ o.take d, p t = true ↔ q t = true) : cP o p d = cP o q d := Int.le_antisymm (cP_le fun t ht => (h t ht).mp) (cP_le fun t ht => (h t ht).mpr)
theorem cP_split (p q : Int → Bool) (d : Nat) : cP o p d = cP o (fun t => p t && q t) d + cP o (fun t => p t && !q t) d := by
  unfold cP
  rw [← Int.natCast_add]
  congr 1
  generalize o.take d = l
  induction l with
  | nil => rfl
  | cons a l ih =>
    rw [List.countP_cons, List.countP_cons, List.countP_cons, ih]
    cases p a <;> cases q a <;> simp <;> omega
theorem cP_all (p : Int → Bool) {d : Nat} (h : d ≤ o.length) : cP o p d + cP o (fun t => !p t) d = d := by
  have a := cP_split (o := o) (fun _ => true) p d
  simp only [Bool.true_and] at a
  rw [← a]
  unfold cP
  simp
  omega
theorem take_drop_nodup (hn : o.Nodup) {d : Nat} {t : Int} (h1 : t ∈ o.take d) (h2 : t ∈ o.drop d) : False := by
  have e := List.take_append_drop d o
  rw [← e, List.nodup_append] at hn
  exact hn.2.2 t h1 t h2 rfl
theorem take_sub {d e : Nat} (h : d ≤ e) {t : Int} (ht : t ∈ o.take d) : t ∈ o.take e := by
  have : o.take d = (o.take e).take d := by rw [List.take_take, Nat.min_eq_left h]
  rw [this] at ht
  exact List.mem_of_mem_take ht
theorem take_or_drop {d : Nat} {t : Int} (h : t ∈ o) : t ∈ o.take d ∨ t ∈ o.drop d := by
  rw [← List.take_append_drop d o] at h
  exact List.mem_append.mp h
/-! ### the least of a lot -/
/-- the number of a lot at the place d -/
abbrev lv (o w : List Int) (L : Int → Bool) (d : Nat) : Int := gd w d - cP o (fun t => !L t) d
/-- the least of a lot -/
def fL (o w : List Int) (L : Int → Bool) : Nat → Int
  | 0 => 0
  | i + 1 => max (fL o w L i) (lv o w L i)
theorem fL_lmax (o w L : List Int) : ∀ i, lmax o w L i = fL o w (fun t => decide (t ∈ L)) i
  | 0 => rfl
  | i + 1 => by
    rw [lmax, fL, fL_lmax o w L i]
    unfold lv cP cntN gd
    simp
theorem fL_ge {w : List Int} {L : Int → Bool} : ∀ (i d : Nat), d < i → lv o w L d ≤ fL o w L i
  | 0, _, h => absurd h (Nat.not_lt_zero _)
  | i + 1, d, h => by
    rw [fL]
    by_cases e : d = i
    · subst e; omega
    · have := fL_ge (L := L) (w := w) i d (by omega)
      omega
theorem fL_nn {w : List Int} {L : Int → Bool} : ∀ i, 0 ≤ fL o w L i
  | 0 => Int.le_refl _
  | i + 1 => by
    have := @fL_nn w L i
    rw [fL]
    omega
theorem fL_at {w : List Int} {L : Int → Bool} (h0 : gd w 0 = 0) : ∀ i, ∃ d, d < i + 1 ∧ fL o w L (i + 1) = lv o w L d
  | 0 => ⟨0, by omega, by
      have : lv o w L 0 = 0 := by show gd w 0 - cP o _ 0 = 0; rw [h0, cP_zero]; rfl
      rw [fL, fL, this]; rfl⟩
  | i + 1 => by
    obtain ⟨d, hd, e⟩ := fL_at (w := w) (L := L) h0 i
    rw [fL]
    by_cases c : fL o w L (i + 1) ≤ lv o w L (i + 1)
    · exact ⟨i + 1, by omega, by omega⟩
    · exact ⟨d, by omega, by omega⟩
/-- one lot's least against another's -/
theorem fL_low {w : List Int} {L R : Int → Bool} {n : Nat} (hn : o.length = n) (h : ∀ d, d ≤ n → gd w d ≤ cP o R d) : fL o w L (n + 1) ≤ cP o (fun t => R t && L t) n ∨ gd w 0 ≠ 0 := by
  by_cases h0 : gd w 0 = 0
  · refine .inl ?_
    obtain ⟨d, hd, e⟩ := fL_at (o := o) (L := L) h0 n
    rw [e]
    have a := h d (by omega)
    have b := cP_split (o := o) R L d
    have c : cP o (fun t => R t && !L t) d ≤ cP o (fun t => !L t) d := cP_le fun t _ ht => by
      cases hr : R t <;> rw [hr] at ht <;> simp_all
    have m := cP_mono (o := o) (fun t => R t && L t) d (n - d)
    rw [show d + (n - d) = n by omega] at m
    show gd w d - _ ≤ _
    omega
  · exact .inr h0
/-! ### corners -/
theorem corner {n : Nat} {s : Int} {w : List Int} (t : Tight n s w) {d : Nat} (hd : d ≤ n) : ∃ c, c ≤ n ∧ (c = 0 ∨ c = n ∨ c ∈ cutsL w) ∧ ((c ≤ d ∧ gd w c = gd w d) ∨ (d ≤ c ∧ gd w c = gd w d + ((c : Int) - d))) := by
  have mem : ∀ c, 1 ≤ c → c < n → gd w (c - 1) < gd w c → gd w c = gd w (c + 1) → c ∈ cutsL w := fun c h1 h2 h3 h4 => by
    unfold cutsL
    refine List.mem_filter.mpr ⟨List.mem_map.mpr ⟨c - 1, List.mem_range.mpr (by rw [t.len]; omega), by omega⟩, ?_⟩
    unfold isCut
    rw [Bool.and_eq_true, decide_eq_true_eq, decide_eq_true_eq]
    exact ⟨h3, h4⟩
  have up : ∀ j d, d + j = n → 1 ≤ d → gd w (d - 1) < gd w d → ∃ c, d ≤ c ∧ c ≤ n ∧ (c = n ∨ c ∈ cutsL w) ∧ gd w c = gd w d + ((c : Int) - d) := by
    intro j
    induction j with
    | zero => exact fun d hd _ _ => ⟨d, Nat.le_refl _, by omega, .inl (by omega), by omega⟩
    | succ j ih =>
      intro d hd h1 h2
      have st := t.step d (by omega)
      by_cases e : gd w (d + 1) = gd w d
      · exact ⟨d, Nat.le_refl _, by omega, .inr (mem d h1 (by omega) h2 e.symm), by omega⟩
      · obtain ⟨c, c1, c2, c3, c4⟩ := ih (d + 1) (by omega) (by omega) (by rw [Nat.add_sub_cancel]; omega)
        exact ⟨c, by omega, c2, c3, by omega⟩
  have dn : ∀ d, d < n → gd w (d + 1) = gd w d → ∃ c, c ≤ d ∧ (c = 0 ∨ c ∈ cutsL w) ∧ gd w c = gd w d := by
    intro d
    induction d with
    | zero => exact fun _ _ => ⟨0, Nat.le_refl _, .inl rfl, rfl⟩
    | succ d ih =>
      intro hd h1
      have st := t.step d (by omega)
      by_cases e : gd w (d + 1) = gd w d
      · obtain ⟨c, c1, c2, c3⟩ := ih (by omega) e
        exact ⟨c, by omega, c2, by omega⟩
      · exact ⟨d + 1, Nat.le_refl _, .inr (mem (d + 1) (by omega) hd (by rw [Nat.add_sub_cancel]; omega) h1.symm), rfl⟩
  by_cases hn : d = n
  · exact ⟨d, hd, .inr (.inl hn), .inl ⟨Nat.le_refl _, rfl⟩⟩
  · have st := t.step d (by omega)
    by_cases e : gd w (d + 1) = gd w d
    · obtain ⟨c, c1, c2, c3⟩ := dn d (by omega) e
      refine ⟨c, by omega, ?_, .inl ⟨c1, c3⟩⟩
      rcases c2 with z | z
      · exact .inl z
      · exact .inr (.inr z)
    · obtain ⟨c, c1, c2, c3, c4⟩ := up (n - (d + 1)) (d + 1) (by omega) (by omega) (by rw [Nat.add_sub_cancel]; omega)
      exact ⟨c, c2, .inr c3, .inr ⟨by omega, by omega⟩⟩
theorem cut_of {n : Nat} {s : Int} {w : List Int} (t : Tight n s w) {c : Nat} : c ∈ cutsL w ↔ 1 ≤ c ∧ c < n ∧ gd w (c - 1) < gd w c ∧ gd w c = gd w (c + 1) := by
  unfold cutsL isCut
  rw [List.mem_filter, List.mem_map, Bool.and_eq_true, decide_eq_true_eq, decide_eq_true_eq]
  constructor
  · rintro ⟨⟨i, hi, rfl⟩, h1, h2⟩
    have := List.mem_range.mp hi
    rw [t.len] at this
    exact ⟨by omega, by omega, h1, h2⟩
  · rintro ⟨h1, h2, h3, h4⟩
    exact ⟨⟨c - 1, List.mem_range.mpr (by rw [t.len]; omega), by omega⟩, h3, h4⟩
theorem Tight.lip {n : Nat} {s : Int} {w : List Int} (t : Tight n s w) : ∀ j i, i + j ≤ n → gd w (i + j) ≤ gd w i + j
  | 0, i, _ => by simp
  | j + 1, i, h => by
    have a := t.lip j i (by omega)
    have b := (t.step (i + j) (by omega)).2
    rw [show i + (j + 1) = i + j + 1 from rfl]
    omega
/-- the corners dominate -/
theorem corner_lv {n : Nat} {s : Int} {w : List Int} (t : Tight n s w) (L : Int → Bool) {d : Nat} (hd : d ≤ n) : ∃ c, c ≤ n ∧ (c = 0 ∨ c = n ∨ c ∈ cutsL w) ∧ lv o w L d ≤ lv o w L c := by
  obtain ⟨c, c1, c2, c3⟩ := corner t hd
  refine ⟨c, c1, c2, ?_⟩
  show gd w d - _ ≤ gd w c - _
  rcases c3 with ⟨a, b⟩ | ⟨a, b⟩
  · have m := (cP_mono (o := o) (fun t => !L t) c (d - c)).1
    rw [show c + (d - c) = d by omega] at m
    omega
  · have m := (cP_mono (o := o) (fun t => !L t) d (c - d)).2
    rw [show d + (c - d) = c by omega] at m
    omega
end

end
section
/-! FkM2: what greedy finds is the least. -/
section
variable {o w : List Int} {n : Nat} {s : Int}
theorem countP_add_one (B : List Int) (t : Int) : ∀ l : List Int, l.countP (fun x => decide (x ∈ B ++ [t])) ≤ l.countP (fun x => decide (x ∈ B)) + l.count t
  | [] => Nat.le_refl _
  | a :: l => by
    have ih := countP_add_one B t l
    rw [List.countP_cons, List.countP_cons, List.count_cons]
    by_cases h1 : a ∈ B <;> by_cases h2 : a = t <;> simp [h1, h2] at ih ⊢ <;> omega
theorem largest (P : Nat → Prop) : ∀ n, P 0 → ∃ d, d ≤ n ∧ P d ∧ ∀ e, e ≤ n → P e → e ≤ d
  | 0, h => ⟨0, Nat.le_refl _, h, fun _ he _ => he⟩
  | n + 1, h => by
    by_cases c : P (n + 1)
    · exact ⟨n + 1, Nat.le_refl _, c, fun _ he _ => he⟩
    · obtain ⟨d, h1, h2, h3⟩ := largest P n h
      exact ⟨d, by omega, h2, fun e he hp => h3 e (by have : e ≠ n + 1 := fun z => c (z ▸ hp); omega) hp⟩
/-- in the list B -/
abbrev inB (B : List Int) : Int → Bool := fun t => decide (t ∈ B)
theorem MayB.at {B : List Int} (h : MayB o w B) (h0 : gd w 0 = 0) {d : Nat} (hd : d ≤ o.length) : cP o (inB B) d ≤ d - gd w d := by
  cases d with
  | zero => rw [cP_zero, h0]; decide
  | succ i =>
    have := h i hd
    unfold cntI at this
    unfold cP gd
    omega
open Classical in
noncomputable def grF (o w : List Int) (B eager : List Int) : List Int := eager.foldl (fun b t => if MayB o w (b ++ [t]) then b ++ [t] else b) B
def Full (o w B : List Int) (t : Int) : Prop := ∃ d, d ≤ o.length ∧ t ∈ o.take d ∧ (d : Int) - gd w d ≤ cP o (inB B) d
theorem Full.mono {B B' : List Int} {t : Int} (h : Full o w B t) (hs : ∀ x ∈ B, x ∈ B') : Full o w B' t := by
  obtain ⟨d, h1, h2, h3⟩ := h
  exact ⟨d, h1, h2, Int.le_trans h3 (cP_le fun x _ hx => decide_eq_true (hs x (of_decide_eq_true hx)))⟩
theorem gr_all (hn : o.Nodup) (h0 : gd w 0 = 0) : ∀ (eager B : List Int), MayB o w B → MayB o w (grF o w B eager) ∧ (∀ t ∈ B, t ∈ grF o w B eager) ∧ (∀ t ∈ grF o w B eager, t ∈ B ∨ t ∈ eager) ∧ ∀ t ∈ eager, t ∈ o → t ∈ grF o w B eager ∨ Full o w (grF o w B eager) t
  | [], B, h => ⟨h, fun _ z => z, fun _ z => .inl z, fun _ z => absurd z (List.not_mem_nil)⟩
  | t :: eager, B, h => by
    by_cases c : MayB o w (B ++ [t])
    · have e : grF o w B (t :: eager) = grF o w (B ++ [t]) eager := by
        unfold grF
        rw [List.foldl_cons, if_pos c]
      rw [e]
      obtain ⟨a1, a2, a3, a4⟩ := gr_all hn h0 eager (B ++ [t]) c
      refine ⟨a1, fun x hx => a2 x (List.mem_append_left _ hx), fun x hx => ?_, fun x hx ho => ?_⟩
      · rcases a3 x hx with z | z
        · rcases List.mem_append.mp z with y | y
          · exact .inl y
          · exact .inr (by rw [List.mem_singleton.mp y]; exact List.mem_cons_self ..)
        · exact .inr (List.mem_cons_of_mem _ z)
      · rcases List.mem_cons.mp hx with z | z
        · subst z
          exact .inl (a2 x (List.mem_append_right _ (List.mem_singleton.mpr rfl)))
        · exact a4 x z ho
    · have e : grF o w B (t :: eager) = grF o w B eager := by
        unfold grF
        rw [List.foldl_cons, if_neg c]
      rw [e]
      obtain ⟨a1, a2, a3, a4⟩ := gr_all hn h0 eager B h
      refine ⟨a1, a2, fun x hx => (a3 x hx).imp id (List.mem_cons_of_mem _), fun x hx ho => ?_⟩
      rcases List.mem_cons.mp hx with z | z
      · subst z
        have : ∃ i, i < o.length ∧ ((i + 1 : Nat) : Int) - w.getD (i + 1) 0 < cntI (B ++ [x]) (o.take (i + 1)) := by
          apply Classical.byContradiction
          intro hc
          exact c fun i hi => Int.not_lt.mp fun hl => hc ⟨i, hi, hl⟩
        obtain ⟨i, hi, hl⟩ := this
        have hb := h i hi
        have nd : (o.take (i + 1)).Nodup := hn.sublist (List.take_sublist ..)
        have k1 := countP_add_one B x (o.take (i + 1))
        have k2 : (o.take (i + 1)).count x ≤ 1 := List.nodup_iff_count.mp nd x
        unfold cntI at hl hb
        refine .inr (Full.mono ⟨i + 1, hi, ?_, ?_⟩ a2)
        · apply Classical.byContradiction
          intro hm
          have := List.count_eq_zero_of_not_mem hm
          omega
        · show ((i + 1 : Nat) : Int) - w.getD (i + 1) 0 ≤ ((o.take (i + 1)).countP (fun t => decide (t ∈ B)) : Nat)
          omega
      · exact a4 x z ho
/-- of a lot L, no more is left than the least -/
theorem gr_low (hn : o.Nodup) (hl : o.length = n) (h0 : gd w 0 = 0) {B : List Int} {L : Int → Bool} (hb : MayB o w B) (hs : ∀ t ∈ B, L t = true) (hf : ∀ t ∈ o, L t = true → t ∈ B ∨ Full o w B t) : cP o (fun t => !inB B t && L t) n ≤ fL o w L (n + 1) := by
  obtain ⟨d, hd, hp, hm⟩ := largest (fun d => (d : Int) - gd w d ≤ cP o (inB B) d) n (by rw [h0, cP_zero]; decide)
  have e1 : cP o (fun t => !inB B t && L t) n ≤ cP o (fun t => !inB B t && L t) d := by
    unfold cP
    rw [List.take_of_length_le (by omega)]
    have e : o.countP (fun t => !inB B t && L t) = (o.take d).countP (fun t => !inB B t && L t) + (o.drop d).countP (fun t => !inB B t && L t) := by
      rw [← List.countP_append, List.take_append_drop]
    have z : (o.drop d).countP (fun t => !inB B t && L t) = 0 := by
      rw [List.countP_eq_zero]
      intro t ht hc
      rw [Bool.and_eq_true] at hc
      have hb' : t ∉ B := by simpa using hc.1
      rcases hf t (List.mem_of_mem_drop ht) hc.2 with z | ⟨e, h1, h2, h3⟩
      · exact hb' z
      · exact take_drop_nodup hn (take_sub (hm e (by omega) h3) h2) ht
    rw [e, z]
    exact Int.le_refl _
  have e2 := cP_all (o := o) (inB B) (d := d) (by omega)
  have e3 := cP_split (o := o) (fun t => !inB B t) L d
  have e4 : cP o (fun t => !L t) d ≤ cP o (fun t => !inB B t && !L t) d := cP_le fun t _ ht => by
    have hL : L t = false := by simpa using ht
    have : t ∉ B := fun z => by rw [hs t z] at hL; cases hL
    simp [hL, this]
  have e5 := fL_ge (o := o) (w := w) (L := L) (n + 1) d (by omega)
  have e6 : lv o w L d = gd w d - cP o (fun t => !L t) d := rfl
  rw [e6] at e5
  omega
theorem fL_all (t : Tight n s w) : fL o w (fun _ => true) (n + 1) = s := by
  have hz : ∀ d, cP o (fun t => !(fun _ => true) t) d = 0 := fun d => by
    unfold cP
    simp
  have h1 := fL_ge (o := o) (w := w) (L := fun _ => true) (n + 1) n (by omega)
  obtain ⟨d, hd, e⟩ := fL_at (o := o) (L := fun _ => true) t.zero n
  have m := t.mono (n - d) d (by omega)
  rw [show d + (n - d) = n by omega, t.last] at m
  unfold lv at e h1
  rw [hz] at e h1
  rw [t.last] at h1
  omega
theorem greedy_all (hn : o.Nodup) (hl : o.length = n) (t : Tight n s w) (lot rest : List Int) (hr : ∀ x ∈ o, x ∈ lot ∨ x ∈ rest) (hw : ∀ i, i ≤ n → gd w i ≤ i) :
    (∀ d, d ≤ n → gd w d ≤ cP o (fun t => !inB (greedy o w (lot ++ rest)) t) d) ∧ cP o (fun t => !inB (greedy o w (lot ++ rest)) t) n = s ∧ cP o (fun t => !inB (greedy o w (lot ++ rest)) t && inB lot t) n = fL o w (inB lot) (n + 1) := by
  have hnil : MayB o w [] := fun i hi => by
    have := hw (i + 1) (by omega)
    unfold cntI
    simp
    unfold gd at this
    simp at this
    omega
  have e : greedy o w (lot ++ rest) = grF o w (grF o w [] lot) rest := by
    unfold greedy grF
    rw [List.foldl_append]
  rw [e]
  obtain ⟨a1, a2, a3, a4⟩ := gr_all hn t.zero lot [] hnil
  obtain ⟨b1, b2, b3, b4⟩ := gr_all hn t.zero rest _ a1
  have f1 : ∀ d, d ≤ n → gd w d ≤ cP o (fun t => !inB (grF o w (grF o w [] lot) rest) t) d := fun d hd => by
    have x := b1.at t.zero (d := d) (by omega)
    have y := cP_all (o := o) (inB (grF o w (grF o w [] lot) rest)) (d := d) (by omega)
    omega
  refine ⟨f1, ?_, ?_⟩
  · have x := gr_low (L := fun _ => true) hn hl t.zero b1 (fun _ _ => rfl) (fun x hx _ => ?_)
    · rw [fL_all t] at x
      have y := f1 n (Nat.le_refl _)
      rw [t.last] at y
      have z : cP o (fun t => !inB (grF o w (grF o w [] lot) rest) t && true) n = cP o (fun t => !inB (grF o w (grF o w [] lot) rest) t) n := cP_congr fun t _ => by simp
      rw [z] at x
      omega
    · rcases hr x hx with z | z
      · exact (a4 x z hx).imp (b2 x) (fun h => h.mono b2)
      · exact b4 x z hx
  · have x := gr_low (L := inB lot) hn hl t.zero a1 (fun x hx => decide_eq_true ((a3 x hx).resolve_left (List.not_mem_nil))) (fun x hx hL => a4 x (of_decide_eq_true hL) hx)
    have y : cP o (fun t => !inB (grF o w (grF o w [] lot) rest) t && inB lot t) n ≤ cP o (fun t => !inB (grF o w [] lot) t && inB lot t) n := cP_le fun x _ hx => by
      rw [Bool.and_eq_true] at hx ⊢
      refine ⟨?_, hx.2⟩
      have h1 : x ∉ grF o w (grF o w [] lot) rest := by simpa using hx.1
      have h2 : x ∉ grF o w [] lot := fun z => h1 (b2 x z)
      simp [h2]
    have z := (fL_low (L := inB lot) hl f1).resolve_right (fun c => c t.zero)
    omega
end

end
section
/-! FkM3: the program's least, the states. -/
theorem Tight.ix {n : Nat} {s : Int} {w : List Int} (t : Tight n s w) (i : Nat) (h : i ≤ n) : gd w i ≤ i := by
  have := t.lip i 0 (by omega)
  rw [t.zero, Nat.zero_add] at this
  omega
theorem fL_congr {o w : List Int} {L L' : Int → Bool} (h : ∀ t ∈ o, L t = L' t) : ∀ i, fL o w L i = fL o w L' i
  | 0 => rfl
  | i + 1 => by
    rw [fL, fL, fL_congr h i]
    have : cP o (fun t => !L t) i = cP o (fun t => !L' t) i := cP_congr fun t ht => by rw [h t (List.mem_of_mem_take ht)]
    unfold lv
    rw [this]
section
variable {h : House} {k m : Know}
theorem Vk.nd (v : Vk h k) : k.1.Nodup := v.perm.nodup_iff.mpr (rgI_nodup _)
theorem Vk.word (v : Vk h k) {f : Nat} (hf : f < h.2.length) : ∃ w, k.2[f]? = some w ∧ k.2.getD f [] = w := by
  have e := List.getElem?_eq_getElem (l := k.2) (i := f) (by rw [v.nf]; exact hf)
  exact ⟨_, e, by rw [List.getD_eq_getElem?_getD, e]; rfl⟩
theorem Vk.ti (v : Vk h k) {f : Nat} {w : List Int} (hw : k.2[f]? = some w) : Tight k.1.length (gd (ksz k) f) w := by
  rw [v.len]
  exact v.tight.each f w hw
theorem Vk.fl (v : Vk h k) {f : Nat} {w : List Int} (hw : k.2[f]? = some w) : f < h.2.length := by
  have := (List.getElem?_eq_some_iff.mp hw).1
  rw [v.nf] at this
  exact this
theorem leastP_eq (v : Vk h k) {f : Nat} {w : List Int} (hw : k.2[f]? = some w) (lot : List Int) : leastP h.1 k lot f = fL k.1 w (inB lot) (k.1.length + 1) := by
  have e : k.2.getD f [] = w := by rw [List.getD_eq_getElem?_getD, hw]; rfl
  have t := v.ti hw
  have g := (greedy_all v.nd rfl t lot ((rgI h.1).filter fun t => decide (t ∉ lot)) (fun x hx => by
    by_cases c : x ∈ lot
    · exact .inl c
    · exact .inr (List.mem_filter.mpr ⟨v.perm.subset hx, decide_eq_true c⟩)) t.ix).2.2
  rw [← g]
  unfold leastP cntI leftL cP eagerL
  rw [e, List.countP_filter, List.take_length]
  congr 2
  funext t
  rw [Bool.and_comm]
  simp
theorem needs_mem {nd : Need} : nd ∈ needs m ↔ ∃ (f : Nat) (v : List Int), m.2[f]? = some v ∧ ∃ c ∈ cutsL v, nd = (srt (m.1.take c), f, v.getD c 0) := by
  unfold needs
  rw [List.mem_flatten]
  constructor
  · rintro ⟨l, hl, hn⟩
    obtain ⟨⟨v, f⟩, hp, rfl⟩ := List.mem_map.mp hl
    obtain ⟨c, hc, rfl⟩ := List.mem_map.mp hn
    obtain ⟨i, hi⟩ := List.getElem?_of_mem hp
    obtain ⟨h1, rfl⟩ := zi hi
    exact ⟨f, v, h1, c, hc, rfl⟩
  · rintro ⟨f, v, h1, c, hc, rfl⟩
    refine ⟨_, List.mem_map.mpr ⟨(v, f), List.mem_iff_getElem?.mpr ⟨f, ?_⟩, rfl⟩, List.mem_map.mpr ⟨c, hc, rfl⟩⟩
    rw [List.getElem?_zipIdx, h1]
    simp
/-- the program's answer is the law's -/
theorem lies_in_eq (v : Vk h k) (u : Vk h m) : (ksz k = ksz m ∧ ∀ nd ∈ needs m, nd.2.2 ≤ leastP h.1 k nd.1 nd.2.1) ↔ Lies k m := by
  have key : ∀ (f : Nat) (x : List Int), m.2[f]? = some x → ∀ c, leastP h.1 k (srt (m.1.take c)) f = lmax k.1 (k.2.getD f []) (m.1.take c) (k.1.length + 1) := fun f x hx c => by
    obtain ⟨w, hw, ew⟩ := v.word (u.fl hx)
    rw [leastP_eq v hw, fL_lmax, ew]
    refine fL_congr (fun t _ => ?_) _
    show decide _ = decide _
    rw [decide_eq_decide]
    exact (srt_perm _).mem_iff
  unfold Lies
  refine and_congr_right fun _ => ?_
  constructor
  · intro hl f x hx c hc
    rw [← key f x hx c]
    exact hl _ (needs_mem.mpr ⟨f, x, hx, c, hc, rfl⟩)
  · intro hl nd hn
    obtain ⟨f, x, hx, c, hc, rfl⟩ := needs_mem.mp hn
    show x.getD c 0 ≤ leastP h.1 k (srt (m.1.take c)) f
    rw [key f x hx c]
    exact hl f x hx c hc
/-! ### states -/
/-- stands at most on the floor f -/
abbrev bel (st : List Int) (f : Nat) : Int → Bool := fun t => decide (st.getD t.toNat 0 ≤ (f : Nat))
theorem st_map {st : List Int} {n : Int} (hl : st.length = n.toNat) : (rgI n).map (fun t => st.getD t.toNat 0) = st := by
  refine List.ext_getElem? fun i => ?_
  unfold rgI
  rw [List.map_map, List.getElem?_map]
  by_cases hi : i < n.toNat
  · rw [List.getElem?_range hi, getD_some (by omega)]
    rfl
  · rw [List.getElem?_eq_none (by simp; omega), List.getElem?_eq_none (by omega)]
    rfl
theorem cnt_bel (v : Vk h k) {st : List Int} (hl : st.length = h.1.toNat) (f : Nat) : cnt st (f : Nat) = cP k.1 (bel st f) k.1.length := by
  unfold cnt cP
  rw [List.take_length, v.perm.countP_eq, ← st_map hl, List.countP_map]
  congr 1
  refine List.countP_congr fun t ht => ?_
  show decide _ = true ↔ _
  rw [st_map hl]
theorem fits_iff (v : Vk h k) {st : List Int} (hl : st.length = h.1.toNat) : Fits h.2.length k st ↔ (∀ f, f < h.2.length → cP k.1 (bel st f) k.1.length = gd (ksz k) f) ∧ ∀ (f : Nat) (w : List Int), k.2[f]? = some w → ∀ d, d ≤ k.1.length → gd w d ≤ cP k.1 (bel st f) d := by
  unfold Fits
  refine and_congr ?_ ?_
  · constructor
    · intro e f hf
      rw [← cnt_bel v hl, ← e]
      unfold sizesL gd
      rw [List.getD_eq_getElem?_getD, List.getElem?_map, List.getElem?_range hf]
      rfl
    · intro e
      refine List.ext_getElem? fun f => ?_
      unfold sizesL
      rw [List.getElem?_map]
      by_cases hf : f < h.2.length
      · rw [List.getElem?_range hf, getD_some (by rw [v.szl]; exact hf)]
        show some (cnt st _) = _
        rw [cnt_bel v hl, e f hf]
      · rw [List.getElem?_eq_none (by simp; omega), List.getElem?_eq_none (by rw [v.szl]; omega)]
        rfl
  · constructor
    · intro e f w hw d hd
      cases d with
      | zero => rw [(v.ti hw).zero, cP_zero]; exact Int.le_refl _
      | succ i => exact e f w hw i hd
    · intro e f w hw i hi
      exact e f w hw (i + 1) hi
/-- a lot of one in the order of another -/
theorem cP_lot (v : Vk h k) (u : Vk h m) (p : Int → Bool) (c : Nat) : cP k.1 (fun t => p t && inB (m.1.take c) t) k.1.length = cP m.1 p c := by
  unfold cP
  rw [List.take_length]
  congr 1
  have e : (m.1.take c).countP p = (m.1.take c).countP (fun t => p t && inB (m.1.take c) t) := List.countP_congr fun t ht => by simp [ht]
  refine Nat.le_antisymm ?_ ?_
  · have a : k.1.countP (fun t => p t && inB (m.1.take c) t) = (k.1.filter (inB (m.1.take c))).countP p := by rw [List.countP_filter]
    rw [a]
    exact countP_sub p _ _ (v.nd.sublist (List.filter_sublist ..)) fun t ht => of_decide_eq_true (List.mem_filter.mp ht).2
  · rw [e]
    exact countP_sub _ _ _ (u.nd.sublist (List.take_sublist ..)) fun t ht => v.perm.symm.subset (u.perm.subset (List.mem_of_mem_take ht))
theorem Vk.len2 (v : Vk h k) (u : Vk h m) : k.1.length = m.1.length := by rw [v.len, u.len]
/-- what lies in the other: its states fit the other -/
theorem fits_of_lies (v : Vk h k) (u : Vk h m) (hl : Lies k m) {st : List Int} (hs : st.length = h.1.toNat) (hf : Fits h.2.length k st) : Fits h.2.length m st := by
  rw [fits_iff v hs] at hf
  rw [fits_iff u hs]
  have size : ∀ f, f < h.2.length → cP m.1 (bel st f) m.1.length = gd (ksz m) f := fun f hf' => by
    rw [← cnt_bel u hs, cnt_bel v hs, hf.1 f hf', hl.1]
  refine ⟨size, fun f x hx d hd => ?_⟩
  have hfl := u.fl hx
  obtain ⟨w, hw, ew⟩ := v.word hfl
  have t := u.ti hx
  obtain ⟨c, c1, c2, c3⟩ := corner t hd
  have at_c : gd x c ≤ cP m.1 (bel st f) c := by
    rcases c2 with rfl | rfl | c2
    · rw [t.zero, cP_zero]; exact Int.le_refl _
    · rw [t.last, size f hfl]; exact Int.le_refl _
    · have a := hl.2 f x hx c c2
      rw [ew, fL_lmax] at a
      have b := (fL_low (L := inB (m.1.take c)) (w := w) (o := k.1) (R := bel st f) rfl (hf.2 f w hw)).resolve_right (fun z => z (v.ti hw).zero)
      rw [cP_lot v u] at b
      unfold gd
      exact Int.le_trans a b
  rcases c3 with ⟨a, b⟩ | ⟨a, b⟩
  · have mo := (cP_mono (o := m.1) (bel st f) c (d - c)).1
    rw [show c + (d - c) = d by omega] at mo
    omega
  · have mo := (cP_mono (o := m.1) (bel st f) d (c - d)).2
    rw [show d + (c - d) = c by omega] at mo
    omega
end

end
section
/-! FkM4: states are built. -/
/-- how many of the first M are false -/
def nF (b : Nat → Bool) (M : Nat) : Nat := (List.range M).countP fun f => !b f
theorem nF_succ (b : Nat → Bool) (M : Nat) : nF b (M + 1) = nF b M + if b M then 0 else 1 := by
  unfold nF
  rw [List.range_succ, List.countP_append, List.countP_singleton]
  cases b M <;> rfl
theorem nF_le (b : Nat → Bool) (M : Nat) : nF b M ≤ M := by
  have := List.countP_le_length (p := fun f => !b f) (l := List.range M)
  rw [List.length_range] at this
  exact this
theorem nF_iff (b : Nat → Bool) : ∀ M, (∀ f, f + 1 < M → b f = true → b (f + 1) = true) → ∀ f, f < M → (nF b M ≤ f ↔ b f = true)
  | 0, _, _, h => absurd h (Nat.not_lt_zero _)
  | M + 1, hm, f, hf => by
    have ih := nF_iff b M (fun g hg => hm g (by omega))
    rw [nF_succ]
    by_cases e : f = M
    · subst e
      cases hb : b f with
      | true => simp [nF_le]
      | false =>
        have : nF b f = f := by
          cases f with
          | zero => rfl
          | succ g =>
            have h1 := ih g (by omega)
            have h2 : ¬ b g = true := fun z => by rw [hm g (by omega) z] at hb; cases hb
            have h3 := nF_le b (g + 1)
            have h4 : ¬ nF b (g + 1) ≤ g := fun z => h2 (h1.mp z)
            omega
        rw [this]
        simp
    · have h1 := ih f (by omega)
      cases hb : b M with
      | true => simpa using h1
      | false =>
        have h2 : ¬ b f = true := by
          intro z
          have : ∀ j, f + j ≤ M → b (f + j) = true := fun j => by
            induction j with
            | zero => exact fun _ => z
            | succ j ihj => exact fun hj => hm (f + j) (by omega) (ihj (by omega))
          have := this (M - f) (by omega)
          rw [show f + (M - f) = M by omega, hb] at this
          cases this
        have h3 : ¬ nF b M ≤ f := fun z => h2 (h1.mp z)
        constructor
        · intro z
          simp at z
          omega
        · exact fun z => absurd z h2
theorem allS_mem {rooms : List Int} {st : List Int} (h1 : ∀ x ∈ st, ∃ j : Nat, j ≤ rooms.length ∧ x = j) (h2 : ∀ j : Nat, j < rooms.length → (st.count (j : Int) : Int) ≤ gd rooms j) : ∀ i, i ≤ st.length → st.take i ∈ allS rooms i
  | 0, _ => by simp [allS]
  | i + 1, hi => by
    have ih := allS_mem h1 h2 i (by omega)
    obtain ⟨x, hx⟩ : ∃ x, st[i]? = some x := ⟨_, List.getElem?_eq_getElem hi⟩
    obtain ⟨j, hj, rfl⟩ := h1 x (List.mem_of_getElem? hx)
    rw [allS, List.mem_flatten]
    refine ⟨_, List.mem_map.mpr ⟨_, ih, rfl⟩, ?_⟩
    rw [take_snoc hx]
    unfold stepSt
    by_cases e : j = rooms.length
    · subst e
      exact List.mem_append_right _ (List.mem_singleton.mpr rfl)
    · refine List.mem_append_left _ (List.mem_map.mpr ⟨(gd rooms j, j), List.mem_filter.mpr ⟨List.mem_iff_getElem?.mpr ⟨j, ?_⟩, ?_⟩, rfl⟩)
      · rw [List.getElem?_zipIdx, getD_some (by omega)]
        simp
      · rw [decide_eq_true_eq]
        have a := h2 j (by omega)
        have b : (st.take (i + 1)).count (j : Int) ≤ st.count (j : Int) := (List.take_sublist ..).count_le _
        rw [take_snoc hx, List.count_append, List.count_singleton] at b
        simp at b
        show ((st.take i).count (j : Int) : Int) < gd rooms j
        omega
theorem cnt_zero : ∀ {l : List Int}, (∀ x ∈ l, 0 ≤ x) → cnt l 0 = (l.count 0 : Nat)
  | [], _ => rfl
  | a :: l, h => by
    have ih := cnt_zero (l := l) fun x hx => h x (List.mem_cons_of_mem _ hx)
    have ha := h a (List.mem_cons_self ..)
    unfold cnt at ih ⊢
    rw [List.countP_cons, List.count_cons]
    by_cases e : a = 0
    · simp [e]; omega
    · have : ¬ a ≤ 0 := by omega
      simp [e, this]; omega
theorem cnt_succ (f : Int) : ∀ l : List Int, cnt l (f + 1) = cnt l f + (l.count (f + 1) : Nat)
  | [] => rfl
  | a :: l => by
    have ih := cnt_succ f l
    unfold cnt at ih ⊢
    rw [List.countP_cons, List.countP_cons, List.count_cons]
    by_cases e : a = f + 1
    · have n1 : ¬ f + 1 ≤ f := by omega
      simp [e, n1]; omega
    · by_cases e2 : a ≤ f
      · have : a ≤ f + 1 := by omega
        simp [e, e2, this]; omega
      · have : ¬ a ≤ f + 1 := by omega
        simp [e, e2, this]; omega
section
variable {h : House} {k m : Know}
/-- a state of nested lots -/
theorem mk_state (hh : HOk h) (v : Vk h k) (S : Nat → Int → Bool) (hm : ∀ f, f + 1 < h.2.length → ∀ t, S f t = true → S (f + 1) t = true) (hs : ∀ f, f < h.2.length → cP k.1 (S f) k.1.length = gd (ksz k) f)
    (hf : ∀ (f : Nat) (w : List Int), k.2[f]? = some w → ∀ d, d ≤ k.1.length → gd w d ≤ cP k.1 (S f) d) : ∃ st ∈ fitS h k, ∀ f, f < h.2.length → ∀ t ∈ k.1, bel st f t = S f t := by
  have hn0 := hh.n0
  have g1 : ∀ t, ∀ f, f < h.2.length → (nF (fun f => S f t) h.2.length ≤ f ↔ S f t = true) := fun t => nF_iff _ _ fun f hf' => hm f hf' t
  let g : Int → Int := fun t => (nF (fun f => S f t) h.2.length : Nat)
  have hl : ((rgI h.1).map g).length = h.1.toNat := by rw [List.length_map, rgI_len]
  have hb : ∀ f, f < h.2.length → ∀ t ∈ k.1, bel ((rgI h.1).map g) f t = S f t := fun f hf' t ht => by
    have ht' := v.perm.subset ht
    have hr := rgI_mem.mp ht'
    have e : ((rgI h.1).map g).getD t.toNat 0 = g t := by
      rw [List.getD_eq_getElem?_getD]
      unfold rgI
      rw [List.map_map, List.getElem?_map, List.getElem?_range (by omega)]
      show g (t.toNat : Int) = g t
      rw [Int.toNat_of_nonneg hr.1]
    show decide (_ ≤ (f : Int)) = _
    rw [e]
    have := g1 t f hf'
    by_cases c : S f t = true
    · rw [c]
      have := this.mpr c
      exact decide_eq_true (Int.ofNat_le.mpr this)
    · have c' : S f t = false := by simpa using c
      rw [c']
      refine decide_eq_false fun z => c (this.mp (Int.ofNat_le.mp z))
  have hfit : Fits h.2.length k ((rgI h.1).map g) := by
    rw [fits_iff v hl]
    refine ⟨fun f hf' => ?_, fun f w hw d hd => ?_⟩
    · rw [← hs f hf']
      exact cP_congr fun t ht => by rw [hb f hf' t (List.mem_of_mem_take ht)]
    · have := hf f w hw d hd
      have e : cP k.1 (bel ((rgI h.1).map g) f) d = cP k.1 (S f) d := cP_congr fun t ht => by rw [hb f (v.fl hw) t (List.mem_of_mem_take ht)]
      rw [e]
      exact this
  have hc : ∀ f, f < h.2.length → cnt ((rgI h.1).map g) (f : Nat) = gd (ksz k) f := fun f hf' => by
    rw [cnt_bel v hl]
    exact ((fits_iff v hl).mp hfit).1 f hf'
  have hnn : ∀ x ∈ (rgI h.1).map g, 0 ≤ x := fun x hx => by
    obtain ⟨t, _, rfl⟩ := List.mem_map.mp hx
    exact Int.natCast_nonneg _
  refine ⟨(rgI h.1).map g, ?_, hb⟩
  unfold fitS
  classical
  refine List.mem_filter.mpr ⟨?_, decide_eq_true hfit⟩
  have := allS_mem (rooms := h.2) (st := (rgI h.1).map g) (fun x hx => by
    obtain ⟨t, _, rfl⟩ := List.mem_map.mp hx
    exact ⟨_, nF_le _ _, rfl⟩) (fun j hj => by
    cases j with
    | zero =>
      have a := cnt_zero hnn
      have b := hc 0 hj
      have c := v.room0
      have a : cnt ((rgI h.1).map g) ((0 : Nat) : Int) = _ := a
      show ((((rgI h.1).map g).count (0 : Int) : Nat) : Int) ≤ _
      omega
    | succ j =>
      have a := cnt_succ j ((rgI h.1).map g)
      have b1 := hc j (by omega)
      have b2 := hc (j + 1) hj
      have c := v.room j hj
      have e : ((j + 1 : Nat) : Int) = (j : Int) + 1 := rfl
      rw [e] at b2 ⊢
      omega) h.1.toNat (by rw [hl]; exact Nat.le_refl _)
  rw [List.take_of_length_le (by rw [hl]; exact Nat.le_refl _)] at this
  exact this
theorem take_filter (o : List Int) (p : Int → Bool) (d : Nat) : (o.filter p).take ((o.take d).countP p) = (o.take d).filter p := by
  have e : o.filter p = (o.take d).filter p ++ (o.drop d).filter p := by rw [← List.filter_append, List.take_append_drop]
  rw [e, List.countP_eq_length_filter, List.take_left]
theorem Vk.chain (v : Vk h k) {f : Nat} {w : List Int} (hw : k.2[f]? = some w) : ∀ (j : Nat) (x : List Int), k.2[f + j]? = some x → ∀ i, i ≤ k.1.length → gd w i ≤ gd x i ∧ gd x i ≤ gd w i + (gd (ksz k) (f + j) - gd (ksz k) f)
  | 0, x, hx, i, hi => by
    rw [Nat.add_zero] at hx
    rw [hx] at hw
    cases hw
    simp
  | j + 1, x, hx, i, hi => by
    have hj := v.fl hx
    obtain ⟨y, hy, _⟩ := v.word (f := f + j) (by omega)
    have a := v.chain hw j y hy i hi
    have b := v.tight.mono (f + j) y x hy hx i (by rw [← v.len]; exact hi)
    rw [show f + (j + 1) = f + j + 1 from rfl]
    omega
/-- a state of one floor's lot -/
theorem line_state (hh : HOk h) (v : Vk h k) {f0 : Nat} {w0 : List Int} (hw0 : k.2[f0]? = some w0) (p : Int → Bool) (hp : ∀ d, d ≤ k.1.length → gd w0 d ≤ cP k.1 p d) (hsz : cP k.1 p k.1.length = gd (ksz k) f0) :
    ∃ st ∈ fitS h k, ∀ t ∈ k.1, bel st f0 t = p t := by
  have nd := v.nd
  have f0l := v.fl hw0
  have sz0 : ∀ f, f < h.2.length → 0 ≤ gd (ksz k) f := fun f hf => v.tight.sz0 f (by rw [v.szl]; exact hf)
  have szn : ∀ f, f < h.2.length → gd (ksz k) f ≤ k.1.length := fun f hf => by
    obtain ⟨w, hw, _⟩ := v.word hf
    have t := v.ti hw
    rw [← t.last]
    exact t.ix _ (Nat.le_refl _)
  have hA : ((k.1.filter p).length : Int) = gd (ksz k) f0 := by
    rw [← hsz, ← List.countP_eq_length_filter]
    unfold cP
    rw [List.take_length]
  have hAB : ((k.1.filter p) ++ (k.1.filter fun t => !p t)).Perm k.1 := List.filter_append_perm p k.1
  have ndL : ((k.1.filter p) ++ (k.1.filter fun t => !p t)).Nodup := hAB.nodup_iff.mpr nd
  let line := (k.1.filter p) ++ (k.1.filter fun t => !p t)
  have hlen : line.length = k.1.length := hAB.length_eq
  let S : Nat → Int → Bool := fun f t => decide (t ∈ line.take (gd (ksz k) f).toNat)
  obtain ⟨st, hst, hb⟩ := mk_state hh v S (fun f hf t ht => by
      have mo := v.tight.szm f (by rw [v.szl]; exact hf)
      exact decide_eq_true (take_sub (by omega) (of_decide_eq_true ht))) (fun f hf => by
      have z := sz0 f hf
      have y := szn f hf
      have e : k.1.countP (S f) = line.countP (S f) := hAB.symm.countP_eq _
      unfold cP
      rw [List.take_length, e]
      have a : line.countP (S f) = (line.take (gd (ksz k) f).toNat).length := by
        rw [← List.take_append_drop (gd (ksz k) f).toNat line, List.countP_append]
        have c1 : (line.take (gd (ksz k) f).toNat).countP (S f) = (line.take (gd (ksz k) f).toNat).length := List.countP_eq_length.mpr fun t ht => decide_eq_true ht
        have c2 : (line.drop (gd (ksz k) f).toNat).countP (S f) = 0 := List.countP_eq_zero.mpr fun t ht hc => take_drop_nodup ndL (of_decide_eq_true hc) ht
        rw [c1, c2, List.take_append_drop]
        rfl
      rw [a, List.length_take]
      omega) (fun f w hw d hd => by
      have hfl := v.fl hw
      have z := sz0 f hfl
      have ca := cP_all (o := k.1) p hd
      have hpd := hp d hd
      have t := v.ti hw
      have tix := t.ix d hd
      have tls : gd w d ≤ gd (ksz k) f := by
        rw [← t.last]
        have := t.mono (k.1.length - d) d (by omega)
        rw [show d + (k.1.length - d) = k.1.length by omega] at this
        exact this
      generalize hs : (gd (ksz k) f).toNat = s at *
      let c := (k.1.take d).countP p
      let e := (k.1.take d).countP fun t => !p t
      have ec : cP k.1 p d = (c : Nat) := rfl
      have ee : cP k.1 (fun t => !p t) d = (e : Nat) := rfl
      have cA : c ≤ (k.1.filter p).length := by
        rw [← List.countP_eq_length_filter]
        exact (List.take_sublist ..).countP_le
      have eB : e ≤ (k.1.filter fun t => !p t).length := by
        rw [← List.countP_eq_length_filter]
        exact (List.take_sublist ..).countP_le
      let X := (k.1.filter p).take (min c s) ++ (k.1.filter fun t => !p t).take (min e (s - (k.1.filter p).length))
      have hX : X.Sublist (line.take s) := by
        show List.Sublist _ (List.take s (_ ++ _))
        rw [List.take_append]
        refine List.Sublist.append ?_ ?_
        · exact List.take_sublist_take_left (Nat.min_le_right ..)
        · exact List.take_sublist_take_left (Nat.min_le_right ..)
      have hX2 : ∀ t ∈ X, t ∈ k.1.take d := fun t ht => by
        rcases List.mem_append.mp ht with z | z
        · have := take_sub (Nat.min_le_left c s) z
          rw [take_filter] at this
          exact (List.mem_filter.mp this).1
        · have := take_sub (Nat.min_le_left e _) z
          rw [take_filter] at this
          exact (List.mem_filter.mp this).1
      have hXn : X.Nodup := (ndL.sublist (List.take_sublist s _)).sublist hX
      have l1 : X.countP (S f) = X.length := List.countP_eq_length.mpr fun t ht => decide_eq_true (by rw [hs]; exact hX.subset ht)
      have l2 := countP_sub (S f) X (k.1.take d) hXn hX2
      have l3 : X.length = min c s + min e (s - (k.1.filter p).length) := by
        show ((k.1.filter p).take (min c s) ++ (k.1.filter fun t => !p t).take (min e (s - (k.1.filter p).length))).length = _
        rw [List.length_append, List.length_take, List.length_take]
        omega
      show _ ≤ (((k.1.take d).countP (S f) : Nat) : Int)
      by_cases ff : f ≤ f0
      · have ch := (v.chain hw (f0 - f) w0 (by rw [show f + (f0 - f) = f0 by omega]; exact hw0) d hd).1
        omega
      · have ch := (v.chain hw0 (f - f0) w (by rw [show f0 + (f - f0) = f by omega]; exact hw) d hd).2
        rw [show f0 + (f - f0) = f by omega] at ch
        have sm : gd (ksz k) f0 ≤ gd (ksz k) f := by
          have := v.chain hw0 (f - f0) w (by rw [show f0 + (f - f0) = f by omega]; exact hw) 0 (Nat.zero_le _)
          rw [show f0 + (f - f0) = f by omega] at this
          omega
        omega)
  refine ⟨st, hst, fun t ht => ?_⟩
  rw [hb f0 f0l t ht]
  show decide (t ∈ ((k.1.filter p) ++ (k.1.filter fun t => !p t)).take (gd (ksz k) f0).toNat) = p t
  have e : (gd (ksz k) f0).toNat = (k.1.filter p).length := by omega
  rw [e, List.take_left]
  cases hpt : p t with
  | true => exact decide_eq_true (List.mem_filter.mpr ⟨ht, hpt⟩)
  | false => exact decide_eq_false fun z => by rw [(List.mem_filter.mp z).2] at hpt; cases hpt
/-- (A) the law's answer on small houses -/
theorem lies_iff (hh : HOk h) (v : Vk h k) (u : Vk h m) : Lies k m ↔ ∀ st ∈ fitS h k, st ∈ fitS h m := by
  classical
  constructor
  · intro hl st hst
    have a := List.mem_filter.mp hst
    exact List.mem_filter.mpr ⟨a.1, decide_eq_true (fits_of_lies v u hl (allS_each _ _ a.1) (of_decide_eq_true a.2))⟩
  · intro hall
    have gr : ∀ (f : Nat) (w : List Int), k.2[f]? = some w → ∀ lot : List Int, ∃ st ∈ fitS h k, cP k.1 (fun t => bel st f t && inB lot t) k.1.length = fL k.1 w (inB lot) (k.1.length + 1) := fun f w hw lot => by
      obtain ⟨g1, g2, g3⟩ := greedy_all v.nd rfl (v.ti hw) lot k.1 (fun x hx => .inr hx) (v.ti hw).ix
      obtain ⟨st, hst, hb⟩ := line_state hh v hw _ g1 g2
      refine ⟨st, hst, ?_⟩
      rw [← g3]
      exact cP_congr fun t ht => by rw [hb t (List.mem_of_mem_take ht)]
    have fit : ∀ st ∈ fitS h k, st.length = h.1.toNat ∧ Fits h.2.length k st ∧ Fits h.2.length m st := fun st hst => by
      have a := List.mem_filter.mp hst
      have b := List.mem_filter.mp (hall st hst)
      exact ⟨allS_each _ _ a.1, of_decide_eq_true a.2, of_decide_eq_true b.2⟩
    have hm0 := hh.m0
    refine ⟨?_, fun f x hx c hc => ?_⟩
    · obtain ⟨w, hw, _⟩ := v.word (f := 0) (by omega)
      obtain ⟨st, hst, _⟩ := gr 0 w hw []
      obtain ⟨_, a, b⟩ := fit st hst
      exact a.1.symm.trans b.1
    · obtain ⟨w, hw, ew⟩ := v.word (u.fl hx)
      obtain ⟨st, hst, e⟩ := gr f w hw (m.1.take c)
      obtain ⟨hl, a, b⟩ := fit st hst
      rw [cP_lot v u] at e
      rw [ew, fL_lmax]
      show _ ≤ fL k.1 w (inB (m.1.take c)) (k.1.length + 1)
      rw [← e]
      have cc := (cut_of (u.ti hx)).mp hc
      exact ((fits_iff u hl).mp b).2 f x hx c (by omega)
end

end
section
/-! FkM5: lying both ways is being the same. -/
theorem mem_take_at {o : List Int} (hn : o.Nodup) {d : Nat} {t : Int} (h : o[d]? = some t) (c : Nat) : t ∈ o.take c ↔ d < c := by
  have hd := (List.getElem?_eq_some_iff.mp h).1
  constructor
  · intro ht
    obtain ⟨i, hi⟩ := List.mem_iff_getElem?.mp ht
    rw [List.getElem?_take] at hi
    split at hi
    · rename_i hc
      have : d = i := (List.getElem?_inj hd hn).mp (h.trans hi.symm)
      omega
    · cases hi
  · intro hc
    exact List.mem_iff_getElem?.mpr ⟨d, by rw [List.getElem?_take, if_pos hc, h]⟩
theorem cP_take {o : List Int} (hn : o.Nodup) (c : Nat) : ∀ d, d ≤ o.length → cP o (inB (o.take c)) d = ((min c d : Nat) : Int)
  | 0, _ => by rw [cP_zero]; simp
  | d + 1, hd => by
    obtain ⟨t, ht⟩ : ∃ t, o[d]? = some t := ⟨_, List.getElem?_eq_getElem hd⟩
    rw [cP_succ _ ht, cP_take hn c d (by omega)]
    have := mem_take_at hn ht c
    by_cases h : d < c
    · rw [if_pos (decide_eq_true (this.mpr h))]; omega
    · rw [if_neg (fun z => h (this.mp (of_decide_eq_true z)))]; omega
theorem cP_lt {o : List Int} {p q : Int → Bool} {d : Nat} (h : ∀ t ∈ o.take d, p t = true → q t = true) {x : Int} (hx : x ∈ o.take d) (h1 : p x = false) (h2 : q x = true) : cP o p d + 1 ≤ cP o q d := by
  unfold cP
  generalize o.take d = l at *
  have : ∀ l : List Int, (∀ t ∈ l, p t = true → q t = true) → x ∈ l → l.countP p + 1 ≤ l.countP q := fun l => by
    induction l with
    | nil => exact fun _ hx => absurd hx List.not_mem_nil
    | cons a l ih =>
      intro hh hx
      rw [List.countP_cons, List.countP_cons]
      by_cases e : x = a
      · subst e
        rw [h1, h2]
        have := List.countP_mono_left (p := p) (q := q) (l := l) fun t ht => hh t (List.mem_cons_of_mem _ ht)
        simp
        omega
      · have i := ih (fun t ht => hh t (List.mem_cons_of_mem _ ht)) ((List.mem_cons.mp hx).resolve_left e)
        have j := hh a (List.mem_cons_self ..)
        cases hp : p a with
        | true => rw [j hp]; simp; omega
        | false => cases q a <;> simp <;> omega
  have := this l h hx
  omega
abbrev wo (L : Int → Bool) (x : Int) : Int → Bool := fun t => L t && !decide (t = x)
abbrev wi (L : Int → Bool) (y : Int) : Int → Bool := fun t => L t || decide (t = y)
theorem cP_wi {o : List Int} (hn : o.Nodup) (L : Int → Bool) (y : Int) (d : Nat) : cP o (wi L y) d ≤ cP o L d + 1 := by
  have nd : (o.take d).Nodup := hn.sublist (List.take_sublist ..)
  have k2 : (o.take d).count y ≤ 1 := List.nodup_iff_count.mp nd y
  have : ∀ l : List Int, l.countP (wi L y) ≤ l.countP L + l.count y := fun l => by
    induction l with
    | nil => exact Nat.le_refl _
    | cons a l ih =>
      rw [List.countP_cons, List.countP_cons, List.count_cons]
      by_cases e : a = y
      · cases h : L a <;> simp [e] <;> omega
      · cases h : L a <;> simp [e, h] <;> omega
  have := this (o.take d)
  unfold cP
  omega
/-- what tells a cut's lot -/
structure CutP (o : List Int) (F : (Int → Bool) → Int) (L : Int → Bool) : Prop where
  less : ∀ x ∈ o, L x = true → F (wo L x) < F L
  more : ∀ y ∈ o, L y = false → F (wi L y) ≤ F L
  some : ∃ x ∈ o, L x = true
  miss : ∃ y ∈ o, L y = false
section
variable {o w : List Int} {n : Nat} {s : Int}
theorem fL_le {L : Int → Bool} (t : Tight n s w) {b : Int} (h : ∀ d, d ≤ n → lv o w L d ≤ b) : fL o w L (n + 1) ≤ b := by
  obtain ⟨d, hd, e⟩ := fL_at (o := o) (L := L) t.zero n
  rw [e]
  exact h d (by omega)
theorem cut_val (hn : o.Nodup) (hl : o.length = n) (t : Tight n s w) {c : Nat} (hc : c ∈ cutsL w) : fL o w (inB (o.take c)) (n + 1) = gd w c := by
  have cc := (cut_of t).mp hc
  refine Int.le_antisymm (fL_le t fun d hd => ?_) ?_
  · have a := cP_all (o := o) (inB (o.take c)) (d := d) (by omega)
    rw [cP_take hn c d (by omega)] at a
    show gd w d - cP o (fun t => !inB (o.take c) t) d ≤ _
    by_cases e : d ≤ c
    · have m := t.mono (c - d) d (by omega)
      rw [show d + (c - d) = c by omega] at m
      have := cP_nn (o := o) (fun t => !inB (o.take c) t) d
      omega
    · have m := t.lip (d - c) c (by omega)
      rw [show c + (d - c) = d by omega] at m
      omega
  · have a := cP_all (o := o) (inB (o.take c)) (d := c) (by omega)
    rw [cP_take hn c c (by omega)] at a
    have b := fL_ge (o := o) (w := w) (L := inB (o.take c)) (n + 1) c (by omega)
    have e : lv o w (inB (o.take c)) c = gd w c - cP o (fun t => !inB (o.take c) t) c := rfl
    rw [e] at b
    omega
theorem cut_cutP (hn : o.Nodup) (hl : o.length = n) (t : Tight n s w) {c : Nat} (hc : c ∈ cutsL w) : CutP o (fun L => fL o w L (n + 1)) (inB (o.take c)) := by
  have cc := (cut_of t).mp hc
  have hv := cut_val hn hl t hc
  refine ⟨fun x hx hL => ?_, fun y hy hL => ?_, ?_, ?_⟩
  · obtain ⟨i, hi⟩ := List.mem_iff_getElem?.mp hx
    have hil := (List.getElem?_eq_some_iff.mp hi).1
    have hic := (mem_take_at hn hi c).mp (of_decide_eq_true hL)
    show fL o w _ _ < fL o w _ _
    rw [hv]
    refine Int.lt_of_le_sub_one (fL_le t fun d hd => ?_)
    show gd w d - cP o (fun t => !wo (inB (o.take c)) x t) d ≤ _
    by_cases e : d ≤ i
    · have m := t.mono (c - 1 - d) d (by omega)
      rw [show d + (c - 1 - d) = c - 1 by omega] at m
      have := cP_nn (o := o) (fun t => !wo (inB (o.take c)) x t) d
      omega
    · have a := cP_lt (o := o) (p := fun t => !inB (o.take c) t) (q := fun t => !wo (inB (o.take c)) x t) (d := d) (fun t _ ht => by
        have : inB (o.take c) t = false := by simpa using ht
        show (!(inB (o.take c) t && _)) = true
        rw [this]; rfl) ((mem_take_at hn hi d).mpr (by omega)) (by rw [hL]; rfl) (by simp [wo])
      have b := fL_ge (o := o) (w := w) (L := inB (o.take c)) (n + 1) d (by omega)
      have e : lv o w (inB (o.take c)) d = gd w d - cP o (fun t => !inB (o.take c) t) d := rfl
      rw [hv, e] at b
      omega
  · show fL o w _ _ ≤ fL o w _ _
    rw [hv]
    refine fL_le t fun d hd => ?_
    show gd w d - cP o (fun t => !wi (inB (o.take c)) y t) d ≤ _
    by_cases e : d ≤ c
    · have m := t.mono (c - d) d (by omega)
      rw [show d + (c - d) = c by omega] at m
      have := cP_nn (o := o) (fun t => !wi (inB (o.take c)) y t) d
      omega
    · have m := t.lip (d - (c + 1)) (c + 1) (by omega)
      rw [show c + 1 + (d - (c + 1)) = d by omega] at m
      have a := cP_all (o := o) (wi (inB (o.take c)) y) (d := d) (by omega)
      have b := cP_wi hn (inB (o.take c)) y d
      rw [cP_take hn c d (by omega)] at b
      omega
  · obtain ⟨x, hx⟩ : ∃ x, o[0]? = some x := ⟨_, List.getElem?_eq_getElem (by omega)⟩
    exact ⟨x, List.mem_of_getElem? hx, decide_eq_true ((mem_take_at hn hx c).mpr (by omega))⟩
  · obtain ⟨x, hx⟩ : ∃ x, o[c]? = some x := ⟨_, List.getElem?_eq_getElem (by omega)⟩
    exact ⟨x, List.mem_of_getElem? hx, decide_eq_false fun z => by have := (mem_take_at hn hx c).mp z; omega⟩
theorem of_cutP (hn : o.Nodup) (hl : o.length = n) (t : Tight n s w) {L : Int → Bool} (h : CutP o (fun L => fL o w L (n + 1)) L) : ∃ c, c ∈ cutsL w ∧ ∀ t ∈ o, L t = true ↔ t ∈ o.take c := by
  obtain ⟨d, hd, e⟩ := fL_at (o := o) (L := L) t.zero n
  have hle : ∀ x ∈ o, L x = true → x ∈ o.take d := fun x hx hL => by
    apply Classical.byContradiction
    intro hc
    have a := h.less x hx hL
    have b := fL_ge (o := o) (w := w) (L := wo L x) (n + 1) d (by omega)
    have c : cP o (fun t => !wo L x t) d = cP o (fun t => !L t) d := cP_congr fun t ht => by
      have : t ≠ x := fun z => hc (z ▸ ht)
      simp [wo, this]
    have e1 : lv o w (wo L x) d = gd w d - cP o (fun t => !wo L x t) d := rfl
    have e2 : lv o w L d = gd w d - cP o (fun t => !L t) d := rfl
    have a : fL o w (wo L x) (n + 1) < fL o w L (n + 1) := a
    omega
  have hge : ∀ y ∈ o.take d, L y = true := fun y hy => by
    cases hL : L y with
    | true => rfl
    | false =>
      have a : fL o w (wi L y) (n + 1) ≤ fL o w L (n + 1) := h.more y (List.mem_of_mem_take hy) hL
      have b := fL_ge (o := o) (w := w) (L := wi L y) (n + 1) d (by omega)
      have c := cP_lt (o := o) (p := fun t => !wi L y t) (q := fun t => !L t) (d := d) (fun t _ ht => by
        have ht : (!(L t || decide (t = y))) = true := ht
        cases hLt : L t with
        | true => rw [hLt] at ht; exact absurd ht (by simp)
        | false => rfl) hy (by simp [wi]) (by rw [hL]; rfl)
      have e1 : lv o w (wi L y) d = gd w d - cP o (fun t => !wi L y t) d := rfl
      have e2 : lv o w L d = gd w d - cP o (fun t => !L t) d := rfl
      omega
  have zero : ∀ (q : Int → Bool) (i : Nat), (∀ t ∈ o.take i, q t = true) → lv o w q i = gd w i := fun q i hq => by
    show gd w i - cP o (fun t => !q t) i = _
    have : cP o (fun t => !q t) i = 0 := by
      unfold cP
      have : (o.take i).countP (fun t => !q t) = 0 := List.countP_eq_zero.mpr fun t ht hc => by rw [hq t ht] at hc; cases hc
      rw [this]; rfl
    omega
  have ed := zero L d hge
  obtain ⟨x, hx, hxL⟩ := h.some
  obtain ⟨y, hy, hyL⟩ := h.miss
  have d1 : 1 ≤ d := by
    have := hle x hx hxL
    cases d with
    | zero => simp at this
    | succ i => omega
  have d2 : d < n := by
    apply Classical.byContradiction
    intro hc
    have : y ∈ o.take d := by rw [List.take_of_length_le (by omega)]; exact hy
    rw [hge y this] at hyL
    cases hyL
  refine ⟨d, (cut_of t).mpr ⟨d1, d2, ?_, ?_⟩, fun t ht => ⟨hle t ht, fun z => hge t z⟩⟩
  · obtain ⟨z, hz⟩ : ∃ z, o[d - 1]? = some z := ⟨_, List.getElem?_eq_getElem (by omega)⟩
    have a : fL o w (wo L z) (n + 1) < fL o w L (n + 1) := h.less z (List.mem_of_getElem? hz) (hge z ((mem_take_at hn hz d).mpr (by omega)))
    have b := fL_ge (o := o) (w := w) (L := wo L z) (n + 1) (d - 1) (by omega)
    rw [zero (wo L z) (d - 1) fun t ht => by
      have h1 := hge t (take_sub (by omega) ht)
      have h2 : t ≠ z := fun q => by
        rw [q] at ht
        have := (mem_take_at hn hz _).mp ht
        omega
      simp [wo, h1, h2]] at b
    omega
  · obtain ⟨z, hz⟩ : ∃ z, o[d]? = some z := ⟨_, List.getElem?_eq_getElem (by omega)⟩
    have hzL : L z = false := by
      cases q : L z with
      | false => rfl
      | true =>
        have := (mem_take_at hn hz d).mp (hle z (List.mem_of_getElem? hz) q)
        omega
    have a : fL o w (wi L z) (n + 1) ≤ fL o w L (n + 1) := h.more z (List.mem_of_getElem? hz) hzL
    have b := fL_ge (o := o) (w := w) (L := wi L z) (n + 1) (d + 1) (by omega)
    rw [zero (wi L z) (d + 1) fun t ht => by
      rw [take_snoc hz] at ht
      rcases List.mem_append.mp ht with q | q
      · simp [wi, hge t q]
      · simp [wi, List.mem_singleton.mp q]] at b
    have st := (t.step d d2).1
    omega
/-- words of the same corners -/
theorem word_le {x : List Int} (t : Tight n s w) (u : Tight n s x) (h : ∀ c ∈ cutsL w, gd w c = gd x c) {d : Nat} (hd : d ≤ n) : gd w d ≤ gd x d := by
  obtain ⟨c, c1, c2, c3⟩ := corner t hd
  have e : gd w c = gd x c := by
    rcases c2 with rfl | rfl | c2
    · rw [t.zero, u.zero]
    · rw [t.last, u.last]
    · exact h c c2
  rcases c3 with ⟨a, b⟩ | ⟨a, b⟩
  · have m := u.mono (d - c) c (by omega)
    rw [show c + (d - c) = d by omega] at m
    omega
  · have m := u.lip (c - d) d (by omega)
    rw [show d + (c - d) = c by omega] at m
    omega
theorem word_eq {x : List Int} (t : Tight n s w) (u : Tight n s x) (h1 : ∀ c ∈ cutsL w, gd w c = gd x c) (h2 : ∀ c ∈ cutsL x, gd w c = gd x c) : w = x := by
  refine List.ext_getElem? fun i => ?_
  by_cases hi : i ≤ n
  · rw [getD_some (by rw [t.len]; omega), getD_some (by rw [u.len]; omega)]
    exact congrArg some (Int.le_antisymm (word_le t u h1 hi) (word_le u t (fun c hc => (h2 c hc).symm) hi))
  · rw [List.getElem?_eq_none (by rw [t.len]; omega), List.getElem?_eq_none (by rw [u.len]; omega)]
end
section
variable {h : House} {k m : Know}
def Same (k m : Know) : Prop := k.2 = m.2 ∧ ∀ p, (∃ w ∈ k.2, p ∈ cutsL w) → ∀ t, t ∈ k.1.take p ↔ t ∈ m.1.take p
theorem Same.symm (h : Same k m) : Same m k := ⟨h.1.symm, fun p hp t => (h.2 p (by rw [h.1]; exact hp) t).symm⟩
theorem Vk.mem (v : Vk h k) (u : Vk h m) {t : Int} : t ∈ k.1 ↔ t ∈ m.1 := v.perm.mem_iff.trans u.perm.mem_iff.symm
theorem lies_of_same (v : Vk h k) (u : Vk h m) (hs : Same k m) : Lies k m := by
  refine ⟨by unfold ksz; rw [hs.1], fun f x hx c hc => ?_⟩
  rw [← hs.1] at hx
  have e : k.2.getD f [] = x := by rw [List.getD_eq_getElem?_getD, hx]; rfl
  have cc := (cut_of (v.ti hx)).mp hc
  rw [e, fL_lmax]
  have a := fL_ge (o := k.1) (w := x) (L := inB (m.1.take c)) (k.1.length + 1) c (by omega)
  have z : cP k.1 (fun t => !inB (m.1.take c) t) c = 0 := by
    unfold cP
    have : (k.1.take c).countP (fun t => !inB (m.1.take c) t) = 0 := List.countP_eq_zero.mpr fun t ht hc' => by
      have := (hs.2 c ⟨x, List.mem_of_getElem? hx, hc⟩ t).mp ht
      simp [this] at hc'
    rw [this]; rfl
  have b : lv k.1 x (inB (m.1.take c)) c = gd x c - cP k.1 (fun t => !inB (m.1.take c) t) c := rfl
  rw [b, z] at a
  show gd x c ≤ fL k.1 x (inB (m.1.take c)) (k.1.length + 1)
  omega
theorem lies_fL (v : Vk h k) (u : Vk h m) (hl : Lies k m) {f : Nat} {w x : List Int} (hw : k.2[f]? = some w) (hx : m.2[f]? = some x) (L : Int → Bool) : fL m.1 x L (m.1.length + 1) ≤ fL k.1 w L (k.1.length + 1) := by
  have t := v.ti hw
  have r := u.ti hx
  have en := v.len2 u
  refine fL_le r fun d hd => ?_
  obtain ⟨c, c1, c2, c3⟩ := corner_lv (o := m.1) r L hd
  refine Int.le_trans c3 ?_
  show gd x c - cP m.1 (fun t => !L t) c ≤ _
  rcases c2 with rfl | rfl | c2
  · rw [r.zero, cP_zero]
    have := fL_nn (o := k.1) (w := w) (L := L) (k.1.length + 1)
    omega
  · rw [r.last, ← hl.1, ← t.last]
    have a := fL_ge (o := k.1) (w := w) (L := L) (k.1.length + 1) k.1.length (by omega)
    have e : cP m.1 (fun t => !L t) m.1.length = cP k.1 (fun t => !L t) k.1.length := by
      unfold cP
      rw [List.take_length, List.take_length, v.perm.countP_eq, u.perm.countP_eq]
    rw [e]
    exact a
  · have a := hl.2 f x hx c c2
    have ew : k.2.getD f [] = w := by rw [List.getD_eq_getElem?_getD, hw]; rfl
    rw [ew, fL_lmax] at a
    obtain ⟨d', hd', e⟩ := fL_at (o := k.1) (L := inB (m.1.take c)) t.zero k.1.length
    have a : gd x c ≤ fL k.1 w (inB (m.1.take c)) (k.1.length + 1) := a
    have b := fL_ge (o := k.1) (w := w) (L := L) (k.1.length + 1) d' hd'
    have e1 : lv k.1 w (inB (m.1.take c)) d' = gd w d' - cP k.1 (fun t => !inB (m.1.take c) t) d' := rfl
    have e2 : lv k.1 w L d' = gd w d' - cP k.1 (fun t => !L t) d' := rfl
    have e3 := cP_split (o := k.1) (fun t => !L t) (inB (m.1.take c)) d'
    have e4 := (cP_mono (o := k.1) (fun t => !L t && inB (m.1.take c) t) d' (k.1.length - d')).1
    rw [show d' + (k.1.length - d') = k.1.length by omega, cP_lot v u (fun t => !L t) c] at e4
    have e5 : cP k.1 (fun t => !L t && !inB (m.1.take c) t) d' ≤ cP k.1 (fun t => !inB (m.1.take c) t) d' := cP_le fun t _ ht => (Bool.and_eq_true _ _ ▸ ht).2
    omega
theorem cut_same (v : Vk h k) (u : Vk h m) (hl : Lies k m) (hl' : Lies m k) {f : Nat} {w x : List Int} (hw : k.2[f]? = some w) (hx : m.2[f]? = some x) {c : Nat} (hc : c ∈ cutsL x) : c ∈ cutsL w ∧ gd w c = gd x c ∧ ∀ t, t ∈ k.1.take c ↔ t ∈ m.1.take c := by
  have t := v.ti hw
  have r := u.ti hx
  have en := v.len2 u
  have eF : (fun L => fL k.1 w L (k.1.length + 1)) = fun L => fL m.1 x L (m.1.length + 1) := funext fun L => Int.le_antisymm (lies_fL u v hl' hx hw L) (lies_fL v u hl hw hx L)
  have cp := cut_cutP u.nd rfl r hc
  have cv := cut_val u.nd rfl r hc
  have cc := (cut_of r).mp hc
  have cp' : CutP k.1 (fun L => fL k.1 w L (k.1.length + 1)) (inB (m.1.take c)) := by
    rw [eF]
    refine ⟨fun z hz => cp.less z ((v.mem u).mp hz), fun z hz => cp.more z ((v.mem u).mp hz), ?_, ?_⟩
    · obtain ⟨z, hz, q⟩ := cp.some
      exact ⟨z, (v.mem u).mpr hz, q⟩
    · obtain ⟨z, hz, q⟩ := cp.miss
      exact ⟨z, (v.mem u).mpr hz, q⟩
  obtain ⟨c', hc', hm⟩ := of_cutP v.nd rfl t cp'
  have cc' := (cut_of t).mp hc'
  have hm2 : ∀ t, t ∈ k.1.take c' ↔ t ∈ m.1.take c := fun t => by
    constructor
    · exact fun z => of_decide_eq_true ((hm t (List.mem_of_mem_take z)).mpr z)
    · exact fun z => (hm t ((v.mem u).mpr (List.mem_of_mem_take z))).mp (decide_eq_true z)
  have l1 := len_sub (v.nd.sublist (List.take_sublist c' _)) (fun t => (hm2 t).mp)
  have l2 := len_sub (u.nd.sublist (List.take_sublist c _)) (fun t => (hm2 t).mpr)
  rw [List.length_take, List.length_take] at l1 l2
  have e : c' = c := by omega
  subst e
  refine ⟨hc', ?_, hm2⟩
  have cv' := cut_val v.nd rfl t hc'
  rw [← cv, ← cv']
  have q : fL k.1 w (inB (k.1.take c')) (k.1.length + 1) = fL k.1 w (inB (m.1.take c')) (k.1.length + 1) := fL_congr (fun t _ => by show decide _ = decide _; rw [decide_eq_decide]; exact hm2 t) _
  rw [q]
  exact congrFun eF (inB (m.1.take c'))
/-- (B) -/
theorem lies_same (v : Vk h k) (u : Vk h m) : (Lies k m ∧ Lies m k) ↔ Same k m := by
  refine ⟨fun ⟨hl, hl'⟩ => ?_, fun hs => ⟨lies_of_same v u hs, lies_of_same u v hs.symm⟩⟩
  have e : k.2 = m.2 := by
    refine List.ext_getElem? fun f => ?_
    by_cases hf : f < h.2.length
    · obtain ⟨w, hw, _⟩ := v.word hf
      obtain ⟨x, hx, _⟩ := u.word hf
      rw [hw, hx]
      have r := u.ti hx
      rw [← hl.1, ← v.len2 u] at r
      refine congrArg some (word_eq (v.ti hw) r (fun c hc => ?_) (fun c hc => (cut_same v u hl hl' hw hx hc).2.1))
      exact (cut_same u v hl' hl hx hw hc).2.1.symm
    · rw [List.getElem?_eq_none (by rw [v.nf]; omega), List.getElem?_eq_none (by rw [u.nf]; omega)]
  refine ⟨e, fun p ⟨w, hw, hp⟩ t => ?_⟩
  obtain ⟨f, hf⟩ := List.getElem?_of_mem hw
  exact (cut_same v u hl hl' hf (by rw [← e]; exact hf) hp).2.2 t
end

end
section
/-! FkM6: blocks and normal forms. -/
theorem perm_of_mem {l l' : List Int} (h1 : l.Nodup) (h2 : l'.Nodup) (h : ∀ t, t ∈ l ↔ t ∈ l') : l.Perm l' := by
  rw [List.perm_iff_count]
  intro a
  have a1 := List.nodup_iff_count.mp h1 a
  have a2 := List.nodup_iff_count.mp h2 a
  by_cases c : a ∈ l
  · have b1 := List.count_pos_iff.mpr c
    have b2 := List.count_pos_iff.mpr ((h a).mp c)
    omega
  · rw [List.count_eq_zero_of_not_mem c, List.count_eq_zero_of_not_mem fun z => c ((h a).mpr z)]
theorem srt_congr {l l' : List Int} (h : l.Perm l') : srt l = srt l' := srt_one ((srt_perm l).trans h) (srt_sorted l)
theorem part_mem {o : List Int} (hn : o.Nodup) {b c : Nat} (h : b ≤ c) (t : Int) : t ∈ (o.drop b).take (c - b) ↔ t ∈ o.take c ∧ t ∉ o.take b := by
  constructor
  · intro ht
    rw [← List.drop_take] at ht
    refine ⟨List.mem_of_mem_drop ht, fun z => ?_⟩
    have nd : (o.take c).Nodup := hn.sublist (List.take_sublist ..)
    refine take_drop_nodup nd (d := b) ?_ ht
    rw [List.take_take, Nat.min_eq_left h]
    exact z
  · rintro ⟨h1, h2⟩
    rw [← List.drop_take]
    rcases take_or_drop (d := b) h1 with z | z
    · rw [List.take_take, Nat.min_eq_left h] at z
      exact absurd z h2
    · exact z
theorem part_nd {o : List Int} (hn : o.Nodup) (b c : Nat) : ((o.drop b).take c).Nodup := (hn.sublist (List.drop_sublist ..)).sublist (List.take_sublist ..)
theorem part_srt {o o' : List Int} (hn : o.Nodup) (hn' : o'.Nodup) {b c : Nat} (h : b ≤ c) (hb : ∀ t, t ∈ o.take b ↔ t ∈ o'.take b) (hc : ∀ t, t ∈ o.take c ↔ t ∈ o'.take c) : srt ((o.drop b).take (c - b)) = srt ((o'.drop b).take (c - b)) :=
  srt_congr (perm_of_mem (part_nd hn ..) (part_nd hn' ..) fun t => by rw [part_mem hn h, part_mem hn' h, hb t, hc t])
theorem part_back {o o' : List Int} (hn : o.Nodup) (hn' : o'.Nodup) {b c : Nat} (h : b ≤ c) (hb : ∀ t, t ∈ o.take b ↔ t ∈ o'.take b) (hp : ∀ t, t ∈ (o.drop b).take (c - b) ↔ t ∈ (o'.drop b).take (c - b)) : ∀ t, t ∈ o.take c ↔ t ∈ o'.take c := fun t => by
  have a := hp t
  rw [part_mem hn h, part_mem hn' h, hb t] at a
  by_cases q : t ∈ o'.take b
  · exact ⟨fun _ => take_sub h q, fun _ => take_sub h ((hb t).mpr q)⟩
  · simpa [q] using a
theorem blk_same {o o' w : List Int} (hn : o.Nodup) (hn' : o'.Nodup) : ∀ (cs : List Nat) (b : Nat), (b :: cs).Pairwise (· < ·) → (∀ c ∈ b :: cs, ∀ t, t ∈ o.take c ↔ t ∈ o'.take c) → blkGo o w b cs = blkGo o' w b cs
  | [], _, _, _ => rfl
  | c :: cs, b, hp, hm => by
    have hp' := List.pairwise_cons.mp hp
    have hbc := hp'.1 c (List.mem_cons_self ..)
    rw [blkGo, blkGo, part_srt hn hn' (Nat.le_of_lt hbc) (hm b (List.mem_cons_self ..)) (hm c (List.mem_cons_of_mem _ (List.mem_cons_self ..))), blk_same hn hn' cs c hp'.2 fun d hd => hm d (List.mem_cons_of_mem _ hd)]
theorem blk_back {o o' w x : List Int} (hn : o.Nodup) (hn' : o'.Nodup) : ∀ (cs cs' : List Nat) (b : Nat), (b :: cs).Pairwise (· < ·) → (b :: cs').Pairwise (· < ·) → (∀ c ∈ cs, c ≤ o.length) → (∀ c ∈ cs', c ≤ o'.length) → (∀ t, t ∈ o.take b ↔ t ∈ o'.take b) → blkGo o w b cs = blkGo o' x b cs' →
    cs = cs' ∧ ∀ c ∈ cs, gd w c = gd x c ∧ ∀ t, t ∈ o.take c ↔ t ∈ o'.take c
  | [], [], _, _, _, _, _, _, _ => ⟨rfl, fun _ h => absurd h List.not_mem_nil⟩
  | [], _ :: _, _, _, _, _, _, _, h => by cases h
  | _ :: _, [], _, _, _, _, _, _, h => by cases h
  | c :: cs, c' :: cs', b, hp, hp', hl, hl', hb, h => by
    have q := List.pairwise_cons.mp hp
    have q' := List.pairwise_cons.mp hp'
    have hbc := q.1 c (List.mem_cons_self ..)
    have hbc' := q'.1 c' (List.mem_cons_self ..)
    have lc := hl c (List.mem_cons_self ..)
    have lc' := hl' c' (List.mem_cons_self ..)
    rw [blkGo, blkGo] at h
    injection h with h1 h2
    injection h1 with h3 h4
    have e := congrArg List.length h3
    rw [srt_len, srt_len, List.length_take, List.length_take, List.length_drop, List.length_drop] at e
    have e : c = c' := by omega
    subst e
    have hm : ∀ t, t ∈ o.take c ↔ t ∈ o'.take c := part_back hn hn' (Nat.le_of_lt hbc) hb fun t => by
      rw [← (srt_perm ((o.drop b).take (c - b))).mem_iff, h3, (srt_perm _).mem_iff]
    obtain ⟨e1, e2⟩ := blk_back hn hn' cs cs' c q.2 q'.2 (fun d hd => hl d (List.mem_cons_of_mem _ hd)) (fun d hd => hl' d (List.mem_cons_of_mem _ hd)) hm h2
    subst e1
    refine ⟨rfl, fun d hd => ?_⟩
    rcases List.mem_cons.mp hd with z | z
    · subst z
      exact ⟨h4, hm⟩
    · exact e2 d z
theorem cuts_chain (w : List Int) : (0 :: cutsL w).Pairwise (· < ·) := by
  unfold cutsL
  refine List.pairwise_cons.mpr ⟨fun c hc => ?_, ?_⟩
  · obtain ⟨i, _, rfl⟩ := List.mem_map.mp (List.mem_filter.mp hc).1
    omega
  · refine List.Pairwise.sublist (List.filter_sublist ..) ?_
    exact List.Pairwise.map _ (fun a b h => Nat.succ_lt_succ h) List.pairwise_lt_range
section
variable {h : House} {k m : Know}
theorem Vk.cuts_le (v : Vk h k) {f : Nat} {w : List Int} (hw : k.2[f]? = some w) : ∀ c ∈ cutsL w, c ≤ k.1.length := fun c hc => by
  have := (cut_of (v.ti hw)).mp hc
  omega
/-- blocks and sizes -/
theorem blocks_same (v : Vk h k) (u : Vk h m) : (blocks k = blocks m ∧ ksz k = ksz m) ↔ Same k m := by
  constructor
  · rintro ⟨hb, hz⟩
    have key : ∀ (f : Nat) (w x : List Int), k.2[f]? = some w → m.2[f]? = some x → cutsL w = cutsL x ∧ ∀ c ∈ cutsL w, gd w c = gd x c ∧ ∀ t, t ∈ k.1.take c ↔ t ∈ m.1.take c := fun f w x hw hx => by
      have e := congrArg (fun l => l[f]?) hb
      unfold blocks at e
      simp only [List.getElem?_map, hw, hx, Option.map_some] at e
      injection e with e
      exact blk_back v.nd u.nd _ _ 0 (cuts_chain w) (cuts_chain x) (v.cuts_le hw) (u.cuts_le hx) (fun t => by simp) e
    have ek : k.2 = m.2 := by
      refine List.ext_getElem? fun f => ?_
      by_cases hf : f < h.2.length
      · obtain ⟨w, hw, _⟩ := v.word hf
        obtain ⟨x, hx, _⟩ := u.word hf
        rw [hw, hx]
        have r := u.ti hx
        rw [← hz, ← v.len2 u] at r
        obtain ⟨q1, q2⟩ := key f w x hw hx
        exact congrArg some (word_eq (v.ti hw) r (fun c hc => (q2 c hc).1) (fun c hc => (q2 c (by rw [q1]; exact hc)).1))
      · rw [List.getElem?_eq_none (by rw [v.nf]; omega), List.getElem?_eq_none (by rw [u.nf]; omega)]
    refine ⟨ek, fun p ⟨w, hw, hp⟩ t => ?_⟩
    obtain ⟨f, hf⟩ := List.getElem?_of_mem hw
    exact ((key f w w hf (by rw [← ek]; exact hf)).2 p hp).2 t
  · intro hs
    refine ⟨?_, by unfold ksz; rw [hs.1]⟩
    unfold blocks
    rw [← hs.1]
    refine List.map_congr_left fun w hw => blk_same v.nd u.nd _ 0 (cuts_chain w) fun c hc t => ?_
    rcases List.mem_cons.mp hc with z | z
    · subst z; simp
    · exact hs.2 c ⟨w, hw, z⟩ t
/-! normal forms -/
abbrev plN (n : Nat) : List Nat := (List.range n).map (· + 1)
theorem plN_at {n i : Nat} (h : i < n) : (plN n)[i]? = some (i + 1) := by
  rw [List.getElem?_map, List.getElem?_range h]
  rfl
abbrev nS (k : Know) (i : Nat) : List Int × Nat := nrmS k ((plN k.1.length).take i)
theorem nS_succ (k : Know) {i : Nat} (h : i < k.1.length) : nS k (i + 1) = if nrmOk k (i + 1) then ((nS k i).1 ++ srt ((k.1.drop (nS k i).2).take (i + 1 - (nS k i).2)), i + 1) else nS k i := nrmS_snoc k (plN_at h)
theorem nS_le (k : Know) {i : Nat} (h : i ≤ k.1.length) : (nS k i).2 ≤ i := (nrmS_len k i h).2
theorem nS_perm (k : Know) : ∀ i, i ≤ k.1.length → (nS k i).1.Perm (k.1.take (nS k i).2)
  | 0, _ => by simp [nS, nrmS]
  | i + 1, h => by
    have ih := nS_perm k i (by omega)
    have hl := nS_le k (i := i) (by omega)
    rw [nS_succ k h]
    split
    · show ((nS k i).1 ++ _).Perm (k.1.take (i + 1))
      have e : k.1.take (i + 1) = k.1.take (nS k i).2 ++ (k.1.drop (nS k i).2).take (i + 1 - (nS k i).2) := by
        rw [← List.take_add, show (nS k i).2 + (i + 1 - (nS k i).2) = i + 1 by omega]
      rw [e]
      exact ih.append (srt_perm _)
    · exact ih
theorem nS_pre (k : Know) (i : Nat) : ∀ j, i + j ≤ k.1.length → ∃ l, (nS k (i + j)).1 = (nS k i).1 ++ l
  | 0, _ => ⟨[], by simp⟩
  | j + 1, h => by
    obtain ⟨l, e⟩ := nS_pre k i j (by omega)
    rw [show i + (j + 1) = i + j + 1 from rfl, nS_succ k (by omega)]
    split
    · exact ⟨l ++ srt _, by show (nS k (i + j)).1 ++ _ = _; rw [e, List.append_assoc]⟩
    · exact ⟨l, e⟩
theorem nS_at (k : Know) {p : Nat} (h1 : 1 ≤ p) (h2 : p ≤ k.1.length) (ho : nrmOk k p) : (nS k p).2 = p := by
  obtain ⟨i, rfl⟩ : ∃ i, p = i + 1 := ⟨p - 1, by omega⟩
  rw [nS_succ k (by omega), if_pos ho]
theorem nrmOk_iff {k m : Know} (e : k.2 = m.2) (el : k.1.length = m.1.length) (p : Nat) : nrmOk k p ↔ nrmOk m p := by
  unfold nrmOk
  rw [e, el]
theorem normal_same (v : Vk h k) (u : Vk h m) : normal k = normal m ↔ Same k m := by
  have el := v.len2 u
  have full : ∀ k : Know, (nrmS k (plN k.1.length)).1 = (nS k k.1.length).1 := fun k => by
    unfold nS
    rw [List.take_of_length_le (by simp)]
  constructor
  · intro e
    have e1 : (nrmS k (plN k.1.length)).1 = (nrmS m (plN m.1.length)).1 := congrArg (fun z : Know => z.1) e
    have e2 : k.2 = m.2 := by
      have z : (normal k).2 = (normal m).2 := congrArg (fun z : Know => z.2) e
      exact z
    rw [full, full] at e1
    refine ⟨e2, fun p ⟨w, hw, hp⟩ t => ?_⟩
    obtain ⟨f, hf⟩ := List.getElem?_of_mem hw
    have cc := (cut_of (v.ti hf)).mp hp
    have ok : nrmOk k p := .inr ⟨w, hw, hp⟩
    have ok' := (nrmOk_iff e2 el p).mp ok
    have a1 := nS_at k cc.1 (by omega) ok
    have a2 := nS_at m cc.1 (by omega) ok'
    have b1 := nS_perm k p (by omega)
    have b2 := nS_perm m p (by omega)
    rw [a1] at b1
    rw [a2] at b2
    obtain ⟨l1, c1⟩ := nS_pre k p (k.1.length - p) (by omega)
    obtain ⟨l2, c2⟩ := nS_pre m p (m.1.length - p) (by omega)
    rw [show p + (k.1.length - p) = k.1.length by omega] at c1
    rw [show p + (m.1.length - p) = m.1.length by omega] at c2
    rw [c1, c2] at e1
    have ll : (nS k p).1.length = (nS m p).1.length := by
      rw [b1.length_eq, b2.length_eq, List.length_take, List.length_take, el]
    have := (List.append_inj e1 ll).1
    rw [← b1.mem_iff, this, b2.mem_iff]
  · intro hs
    have hmem : ∀ p, nrmOk k p → ∀ t, t ∈ k.1.take p ↔ t ∈ m.1.take p := fun p hp t => by
      rcases hp with z | z
      · rw [z, List.take_length, el, List.take_length]
        exact v.mem u
      · exact hs.2 p z t
    have key : ∀ i, i ≤ k.1.length → nS k i = nS m i ∧ ∀ t, t ∈ k.1.take (nS k i).2 ↔ t ∈ m.1.take (nS k i).2 := fun i => by
      induction i with
      | zero => exact fun _ => ⟨by simp [nS, nrmS], by simp [nS, nrmS]⟩
      | succ i ih =>
        intro hi
        obtain ⟨h1, h2⟩ := ih (by omega)
        have hl := nS_le k (i := i) (by omega)
        rw [nS_succ k (by omega), nS_succ m (by omega)]
        by_cases ok : nrmOk k (i + 1)
        · rw [if_pos ok, if_pos ((nrmOk_iff hs.1 el _).mp ok), ← h1]
          refine ⟨?_, hmem _ ok⟩
          rw [part_srt v.nd u.nd (by omega) h2 (hmem _ ok)]
        · rw [if_neg ok, if_neg fun z => ok ((nrmOk_iff hs.1 el _).mpr z)]
          exact ⟨h1, h2⟩
    show ((nrmS k (plN k.1.length)).1, k.2) = ((nrmS m (plN m.1.length)).1, m.2)
    rw [full, full, hs.1, (key _ (Nat.le_refl _)).1, el]
end

end
section
/-! FkN1: _law_alike. -/
abbrev blD (l : List Bool) : D := .list (l.map .bool)
theorem fBL : Faith 1 blD := Faith.bool.lst
theorem shows_bl (l : List Bool) : Shows (1 * l.length) 1 (blD l) := by
  have := Shows.list (wt := 0) (n := 0) (ds := l.map PyData.bool) (fun d hd => by
    obtain ⟨b, _, rfl⟩ := List.mem_map.mp hd
    exact Shows.bool b)
  rw [List.length_map] at this
  exact this
def dEqS : D → D → (D → Prop) → Prop := fun x y R => ∃ a b : Str, x = .str a ∧ y = .str b ∧ R (.bool (decide (a = b)))
def dNeS : D → D → (D → Prop) → Prop := fun x y R => ∃ a b : Str, x = .str a ∧ y = .str b ∧ R (.bool (!decide (a = b)))
theorem dec_strV {a b : Str} : decide (V.str a = V.str b) = decide (a = b) := by
  rw [decide_eq_decide]
  exact ⟨fun h => by cases h; rfl, fun h => by rw [h]⟩
theorem rd_eqS {B : Bg} : RD B rEq dEqS := fun G H x y vx vy R Q ok px py k q => by
  obtain ⟨a, b, rfl, rfl, r⟩ := k
  rw [px.str_inv, py.str_inv]
  refine ⟨rfl, ?_⟩
  rw [dec_strV]
  exact q _ _ _ _ r (Stp.refl _ _ _) ok (.bl _)
theorem rd_neS {B : Bg} : RD B rNe dNeS := fun G H x y vx vy R Q ok px py k q => by
  obtain ⟨a, b, rfl, rfl, r⟩ := k
  rw [px.str_inv, py.str_inv]
  refine ⟨rfl, ?_⟩
  rw [dec_strV]
  exact q _ _ _ _ r (Stp.refl _ _ _) ok (.bl _)
abbrev C_law_alike : Ct := ⟨List Bool × List Bool, fun a => [blD a.1, blD a.2], fun a => a.1.length ≤ 100 ∧ a.2.length ≤ 100, fun a d => d = .bool (decide (a.1 = a.2))⟩
theorem d_law_alike {K : PySem.W.Frag} : DOk (t__law_alike K) C_law_alike n__law_alike 2 := by
  rintro ⟨a, b⟩ ⟨h1, h2⟩ M
  have h1 : a.length ≤ 100 := h1
  have h2 : b.length ≤ 100 := h2
  show SS M (t__law_alike K) [.dat (blD a), .dat (blD b)] _ _
  unfold t__law_alike
  repeat bv_omega
  refine dEq_f fBL ?_
  refine ⟨_, rfl, fun hb => ?_, fun hb => ?_⟩
  · have hb := of_decide_eq_true hb
    subst hb
    refine we_op rd_eqS ?_
    with_reducible refine we_cb rc_repr ?_
    repeat bv_omega
    refine ⟨⟨_, _, shows_bl a, by omega, by decide⟩, ?_⟩
    show WE M _ _ _
    with_reducible refine we_cb rc_repr ?_
    repeat bv_omega
    refine ⟨⟨_, _, shows_bl a, by omega, by decide⟩, ?_⟩
    refine ⟨_, _, rfl, rfl, ?_⟩
    show PyData.bool _ = PyData.bool _
    simp
  · have hb := of_decide_eq_false hb
    show PyData.bool _ = PyData.bool _
    simp [hb]

end
section
/-! FkN2: the bag is made. -/
def spMk (K : PySem.W.Frag) (T : Addr × Str) : Sp := fun vs H Q _ => ∃ (a : Addr) (ns : List Int), vs = [.ref a] ∧ SqL K H a (ns.map V.int) ∧ LamX.TabS H T.1 T.2 ∧ ∀ b c G' H', Ok { bag := some (b, c), tab := some T } G' H' → Q (.ref b) H'
theorem cutV_ints (ns : List Int) : ∃ ms : List Int, cutV (ns.map V.int) none (some 63) = ms.map V.int ∧ ms.length ≤ 63 := by
  unfold cutV
  have e : HT.sIx (ns.map V.int).length 0 none = 0 := rfl
  refine ⟨(ns.drop (HT.sIx (ns.map V.int).length 0 none)).take (HT.sIx (ns.map V.int).length (ns.map V.int).length (some 63) - HT.sIx (ns.map V.int).length 0 none), ?_, ?_⟩
  · rw [List.map_take, List.map_drop]
  · have : HT.sIx (ns.map V.int).length (ns.map V.int).length (some 63) ≤ 63 := by
      have := HT.sIx_nat (ns.map V.int).length (ns.map V.int).length 63
      rw [show (some 63 : Option Int) = some ((63 : Nat) : Int) from rfl, this]
      omega
    rw [List.length_take]
    omega
theorem we_val {M : Mx} {δ : List SD} {R : D → Prop} {v : V} {d : D} (h : Rp M.G0 v d) (r : R d) : WE M (tC v) δ R := fun G H σ s Q q => q d v G H r (Stp.refl _ _ _) s.ok (h.mono s.st.gg)
/-- the list of the bag's numbers, from a list at p -/
theorem bag_lc {K : PySem.W.Frag} {M : Mx} {p : Addr} {ms : List Int} (h : M.G0 p = some (.lst (ms.map V.int))) (hl : ms.length ≤ 63) :
    WL M (tLc (iSeq K (tC (.ref p))) (gName 1) tYes (tCB (rAbs) (tCons (tVar 1) tNil)) [1]) [.no, .no] (fun ds => ds = (ms.map fun i => if i < 0 then -i else i).map PyData.int) := by
  refine wl_lcL ?_
  repeat bv_omega
  refine we_val (d := .list (ms.map .int)) (.lst h (RpA.ints ms)) ?_
  repeat bv_omega
  refine lcOkM ms .int rfl (fun i => .int (if i < 0 then -i else i)) (sm_lt (by show ms.length ≤ 100000; omega)) (fun i t hi => ?_) ?_
  · dsimp only [wipeD, List.set]
    repeat bv_omega
    refine ⟨rfl, fun G H σ s Q q => ?_⟩
    obtain ⟨v, hv, pv⟩ := s.sl 1 _ rfl
    have ev := pv.int_inv
    subst ev
    exact ⟨V.int t, hv, t, rfl, q _ _ _ _ rfl (Stp.refl _ _ _) s.ok (.int _)⟩
  · rw [List.map_map]
    rfl

end
section
/-! FkN3: the bag is made, raw. -/
theorem bag_raw {K : PySem.W.Frag} {T : Addr × Str} {vs : List V} {H : Hp} {Q : VK} {E : XK} (h : spMk K T vs H Q E) : vs.length = 1 ∧ t__law_bag K { nx := fun _ H' => Q .non H', rt := Q } (L2.start n__law_bag vs) H := by
  obtain ⟨a, ns, rfl, hs, ht, q⟩ := h
  obtain ⟨ms, em, hl⟩ := cutV_ints ns
  refine ⟨rfl, ?_⟩
  unfold t__law_bag
  unfold tRet tLst tCons tC tNil
  dsimp only
  refine ⟨V.ref a, rfl, 63, rfl, .inl ⟨a, _, rfl, hs, fun p hp => ?_⟩⟩
  rw [em]
  have ok0 : Ok { tab := some T } (fun _ => none) H := ⟨fun _ _ e => (nomatch e), fun _ _ e => (nomatch e), fun P q e => by cases e; exact ⟨rfl, ht⟩⟩
  obtain ⟨st1, ok1⟩ := Stp.new ok0 (.lst (ms.map V.int)) hp
  let G0 : Hp := upd (fun _ => none) p (.lst (ms.map V.int))
  let H1 : Hp := upd H p (.lst (ms.map V.int))
  have key : tLc (iSeq K (tC (.ref p))) (gName 1) tYes (tCB rAbs (tCons (tVar 1) tNil)) [1] [some (V.ref a), none] H1 (fun x H2 => [V.int 0, V.int 1234567891, V.int 0, x].length ≤ sizeLine ∧ ∀ b, H2 b = none → Q (.ref b) (upd H2 b (.lst [V.int 0, V.int 1234567891, V.int 0, x]))) := by
    refine bag_lc (M := ⟨{ tab := some T }, G0, H1⟩) (show upd (fun _ => none) p (.lst (ms.map V.int)) p = some (.lst (ms.map V.int)) from upd_same) hl G0 H1 _ ?_ _ ?_
    · refine ⟨ok1, Stp.refl _ _ _, rfl, fun i sd h => ?_, fun i j l xs ys h1 _ _ _ => ?_⟩
      · match i, h with
        | 0, h => cases h; trivial
        | 1, h => cases h; trivial
      · match i, h1 with
        | 0, h => cases h
        | 1, h => cases h
    · intro ds c ws G' H' e st ok hc gc hc2 ra
      subst e
      have ew := ra.of_ints
      subst ew
      have hc1 : c ≠ p := fun z => by rw [z] at hc; exact absurd hc (by show upd H p _ p ≠ none; rw [upd_same]; exact fun z => nomatch z)
      refine ⟨by show 4 ≤ sizeLine; rw [sizeLine_eq]; decide, fun b hb => ?_⟩
      have nbc : c ≠ b := fun z => by rw [← z, hc2] at hb; cases hb
      refine q b c (upd G' c (.lst ((ms.map fun i => if i < 0 then -i else i).map V.int))) _ ⟨fun x u ex => ?_, fun b' c' eb => ?_, fun P r ep => ?_⟩
      · by_cases xc : x = c
        · subst xc
          rw [upd_same] at ex
          cases ex
          rw [upd_ne nbc]
          exact hc2
        · rw [upd_ne xc] at ex
          have h2 := ok.gh x u ex
          rw [upd_ne (fun z => by rw [z, hb] at h2; cases h2)]
          exact h2
      · cases eb
        refine ⟨?_, by rw [upd_same]; exact fun z => (nomatch z), 0, 1234567891, 0, _, upd_same, by rw [upd_ne nbc]; exact hc2, by decide, by decide, by decide, by decide, fun n hn => ?_, by simp; omega⟩
        · rw [upd_ne nbc.symm]
          cases eg : G' b with
          | none => rfl
          | some u => have := ok.gh b u eg; rw [hb] at this; cases this
        · obtain ⟨i, _, rfl⟩ := List.mem_map.mp hn
          split <;> omega
      · cases ep
        obtain ⟨k1, ps, q1, q2, q3⟩ := ok.tab _ _ rfl
        have nPb : P ≠ b := fun z => by rw [z, hb] at q1; cases q1
        refine ⟨?_, ps, by rw [upd_ne nPb]; exact q1, q2, fun pos cv hcv => ?_⟩
        · rw [upd_ne (fun z => by rw [z, hc2] at q1; cases q1)]
          exact k1
        · obtain ⟨c2, e1, e2⟩ := q3 pos cv hcv
          exact ⟨c2, e1, by rw [upd_ne (fun z => by rw [z, hb] at e2; cases e2)]; exact e2⟩
  exact key

end
section
/-! FkN4: the law. -/
theorem shows_tI {l : List Int} (h : ∀ x ∈ l, 0 ≤ x ∧ x < 1000) : Shows (11 * l.length) 1 (tI l) := by
  have := Shows.tuple (wt := 10) (n := 0) (ds := l.map PyData.int) (fun d hd => by
    obtain ⟨x, hx, rfl⟩ := List.mem_map.mp hd
    exact Shows.int (h x hx).1 (h x hx).2)
  rw [List.length_map] at this
  exact this
theorem Tight.le_pl {n : Nat} {s : Int} {w : List Int} (t : Tight n s w) : ∀ i, i ≤ n → gd w i ≤ i
  | 0, _ => by rw [t.zero]; exact Int.le_refl _
  | i + 1, h => by
    have a := t.le_pl i (by omega)
    have b := (t.step i (by omega)).2
    omega
theorem shows_k {h : House} {k : Know} (hh : HOk h) (v : Vk h k) : Shows 1506 3 (kD k) := by
  have n1 := hh.n1
  have m1 := hh.m1
  have hl := v.len
  have hf := v.nf
  have s1 : Shows 752 2 (tI k.1) := (shows_tI fun x hx => by
    have := rgI_mem.mp (v.perm.subset hx)
    omega).mono (by omega) (by decide)
  have s2 : Shows 752 2 (wsD k.2) := by
    refine (Shows.tuple (wt := 187) (n := 1) (ds := k.2.map tI) fun d hd => ?_).mono (by rw [List.length_map]; omega) (by decide)
    obtain ⟨w, hw, rfl⟩ := List.mem_map.mp hd
    obtain ⟨f, hfw⟩ := List.getElem?_of_mem hw
    have t := v.tight.each f w hfw
    have tl := t.len
    refine (shows_tI fun x hx => ?_).mono (by omega) (Nat.le_refl _)
    obtain ⟨i, hi⟩ := List.getElem?_of_mem hx
    have hil := (List.getElem?_eq_some_iff.mp hi).1
    have a := t.le_pl i (by omega)
    have b := t.nn i (by omega)
    rw [gd_some hi] at a b
    omega
  have := Shows.tuple (wt := 752) (n := 2) (ds := [tI k.1, wsD k.2]) fun d hd => by
    simp only [List.mem_cons, List.mem_nil_iff, or_false] at hd
    rcases hd with rfl | rfl
    · exact s1
    · exact s2
  exact this
theorem shows_two {h : House} {k m : Know} (hh : HOk h) (v : Vk h k) (u : Vk h m) : Shows 3014 4 (.list [kD k, kD m]) := by
  have := Shows.list (wt := 1506) (n := 3) (ds := [kD k, kD m]) fun d hd => by
    simp only [List.mem_cons, List.mem_nil_iff, or_false] at hd
    rcases hd with rfl | rfl
    · exact shows_k hh v
    · exact shows_k hh u
  exact this
variable {T : Addr × Str} {K : PySem.W.Frag}
/-- [1 for x in states[i] if x not in states[j]] == [] -/
theorem we_none {M : Mx} {δ : List SD} {ls : List (List (List Int))} {i j : Nat} {a b : List (List Int)} (h : δ[10]? = some (.dat (.list (ls.map fun l => .list (l.map tI))))) (hl : 11 < δ.length) (ha : ls[i]? = some a) (hb : ls[j]? = some b) (hz : a.length ≤ 100000) :
    WE M (tOp (rEqD K) (tLc (iSeq K (tOp (rIx K) (tVar 10) (tC (.int (i : Int))))) (gName 11) (tTest (tOp (rNotIn2 K) (tVar 11) (tOp (rIx K) (tVar 10) (tC (.int (j : Int)))))) (tC (.int 1)) [11]) (tLst tNil)) δ (fun d => d = .bool (decide (∀ x ∈ a, x ∈ b))) := by
  refine we_op rd_eq (we_of_wl (wl_lcL (wj_of (wi_seq (we_op rd_ix (we_var h (we_int (dIx_list (atI_map ha) (isSeq_list ?_)))))))))
  refine lcOk a tI rfl (fun x => !decide (x ∈ b)) (fun _ => .int 1) (sm_lt hz) (fun n x hx => ?_) ?_
  · have g11 : (wipeD δ [11])[10]? = some (.dat (.list (ls.map fun l => .list (l.map tI)))) := by
      show (δ.set 11 .no)[10]? = _
      rw [List.getElem?_set_ne (by decide)]
      exact h
    refine wg_name (by decide) ?_
    have w10 : ((wipeD δ [11]).set 11 (.dat (tI x)))[10]? = some (.dat (.list (ls.map fun l => .list (l.map tI)))) := by
      rw [List.getElem?_set_ne (by decide)]
      exact g11
    have w11 : ((wipeD δ [11]).set 11 (.dat (tI x)))[11]? = some (.dat (tI x)) := by
      refine List.getElem?_set_self ?_
      show 11 < (δ.set 11 .no).length
      rw [List.length_set]
      exact hl
    refine wt_test (we_op rd_notIn2 (we_var w11 (we_op rd_ix (we_var w10 (we_int (dIx_list (atI_map hb) (dNotIn_f fTI ⟨_, rfl, congrArg (!·) (decide_eq_decide.mpr Iff.rfl), fun _ => we_int rfl⟩)))))))
  · refine we_of_wl (wl_lst (wa_nil ⟨by decide, ?_⟩))
    have e : PyData.list ((a.filter fun x => !decide (x ∈ b)).map fun _ => PyData.int 1) = lI ((a.filter fun x => !decide (x ∈ b)).map fun _ => 1) := by show _ = PyData.list (List.map _ (List.map _ _)); rw [List.map_map]; rfl
    rw [e]
    refine dEq_f (b := []) fLI ?_
    show PyData.bool _ = PyData.bool _
    congr 1
    rw [decide_eq_decide, List.map_eq_nil_iff, List.filter_eq_nil_iff]
    constructor
    · intro q x hx
      have := q x hx
      simpa using this
    · intro q x hx
      have := q x hx
      simpa using this
open Classical in
noncomputable def smB (k m : Know) : Bool := decide (Same k m)
open Classical in
theorem smB_iff {k m : Know} : smB k m = true ↔ Same k m := by unfold smB; exact decide_eq_true_iff
theorem beq_of {b c : Bool} {p : Prop} (h1 : b = true ↔ p) (h2 : c = true ↔ p) : b = c := Bool.eq_iff_iff.mpr (h1.trans h2.symm)
theorem as_map {α : Type} (e : α → D) (A : List α) : ∀ l : List D, (∀ d ∈ l, ∃ s ∈ A, d = e s) → ∃ sts : List α, l = sts.map e ∧ ∀ s ∈ sts, s ∈ A
  | [], _ => ⟨[], rfl, fun s hs => (nomatch hs)⟩
  | d :: l, h => by
    obtain ⟨s, hs, rfl⟩ := h d (.head _)
    obtain ⟨sts, rfl, h2⟩ := as_map e A l fun d hd => h d (.tail _ hd)
    refine ⟨s :: sts, rfl, fun x hx => ?_⟩
    rcases List.mem_cons.mp hx with rfl | hx
    · exact hs
    · exact h2 x hx
theorem seq_asg0 {te : TE} {i : Nat} {u : TS} {D0 : Ends} {σ : L2.St} {H : Hp} (h : te σ H (fun x H1 => u D0 (σ.set i (some x)) H1)) : tSeq (tAsg te (gName i)) u D0 σ H := h
def spLaw (K : PySem.W.Frag) (T : Addr × Str) : Sp := fun vs H Q _ => ∃ (a : Addr) (ns : List Int), vs = [.ref a] ∧ SqL K H a (ns.map V.int) ∧ LamX.TabS H T.1 T.2 ∧ ∀ H', Q (.bl true) H'
theorem d_law {vs : List V} {H : Hp} {Q : VK} {E : XK} (h : spLaw K T vs H Q E) : vs.length = 1 ∧ t_law K (spP C_known_sizes) (spP C_blocks) (spP C_normal_of) (spP C_law_alike) (spP C_lies_in) (spP C_alike) (spP C_law_is_small) (spP C_law_all_states) (spB T C_law_mixed) (spP C_fits) (spP C_law_states_that_fit) (spP C_law_lies) (spP C_blocks) (spB T C_two) (spB T C_know) (spB T C_law_take) (spB T C_two) (spB T C_law_some_house) (spMk K T) { nx := fun _ H' => Q .non H', rt := Q } (L2.start n_law vs) H := by
  obtain ⟨a, ns, rfl, hs, ht, q⟩ := h
  refine ⟨rfl, ?_⟩
  unfold t_law
  refine seq_asg0 ?_
  refine ⟨V.ref a, rfl, a, ns, rfl, hs, ht, fun b c G1 H1 ok => ?_⟩
  show tSeq _ _ _ _ _
  rw [show (L2.start n_law [V.ref a]).set 1 (some (V.ref b)) = some (V.ref a) :: some (V.ref b) :: List.replicate 11 none from rfl]
  have sr : SR ⟨{ bag := some (b, c), tab := some T }, G1, H1⟩ G1 H1 (some (V.ref a) :: some (V.ref b) :: List.replicate 11 none) [.no, .bag, .no, .no, .no, .no, .no, .no, .no, .no, .no, .no, .no] := by
    have no : ∀ (i : Nat) (sd : SD), (List.replicate 11 SD.no)[i]? = some sd → sd = .no := fun i sd e => List.eq_of_mem_replicate (List.mem_of_getElem? e)
    refine ⟨ok, Stp.refl _ _ _, rfl, fun i sd h => ?_, fun i j l xs ys h1 _ _ _ => ?_⟩
    · match i, h with
      | 0, h => cases h; trivial
      | 1, h => cases h; exact ⟨b, c, rfl, rfl⟩
      | i + 2, h =>
        have e := no i sd h
        subst e
        trivial
    · match i, h1 with
      | 0, h => cases h
      | 1, h => cases h
      | i + 2, h => exact absurd (no i _ h) (fun z => nomatch z)
  refine (?_ : SS ⟨{ bag := some (b, c), tab := some T }, G1, H1⟩ _ [.no, .bag, .no, .no, .no, .no, .no, .no, .no, .no, .no, .no, .no] (fun _ => False) ⟨fun d => d = .bool true, fun _ => False, fun _ => False⟩) G1 H1 _ sr _ (fun _ _ _ _ z => z.elim) (fun _ _ _ _ z => z.elim) (fun _ _ _ _ z => z.elim) (fun d v G' H' e _ _ _ r => ?_)
  · generalize hM : (⟨{ bag := some (b, c), tab := some T }, G1, H1⟩ : Mx) = M
    have hT : M.B.tab = some T := by rw [← hM]
    clear sr hM
    try with_reducible refine ss_seq ?_
    with_reducible refine ss_forL [2] ?_
    repeat bv_omega
    refine ⟨by omega, forOk1 (List.range 4) _ (rgD_map0 4) (fun _ => [.no, .bag, .no, .no, .no, .no, .no, .no, .no, .no, .no, .no, .no]) (Le.refl _) (fun i t hi => ?_) ?_⟩
    · repeat bv_omega
      dsimp only [List.set]
      refine ss_le (δ' := [.no, .bag, .no, .no, .no, .no, .no, .no, .no, .no, .no, .no, .no]) (by symm_saturate) ?_
      try with_reducible refine ss_seq ?_
      refine ss_set ?_
      repeat bv_omega
      refine callOk [5, 16, 5, 10] rfl ⟨by decide, by decide, by decide⟩ ?_
      rintro d ⟨h, rfl, hh⟩
      dsimp only [List.set]
      try with_reducible refine ss_seq ?_
      refine ss_asg (is := [4, 5]) ?_
      repeat bv_omega
      refine callOk h rfl hh ?_
      rintro d ⟨k0, m0, rfl, hk0, hm0⟩
      repeat bv_omega
      dsimp only [List.set]
      try with_reducible refine ss_seq ?_
      refine ss_set ?_
      repeat bv_omega
      refine callOk (5 : Int) rfl (by decide) ?_
      rintro d ⟨way, rfl, w0, w1⟩
      dsimp only [List.set]
      try with_reducible refine ss_seq ?_
      refine ss_imp (N' := fun δ' => ∃ m2, Vk h m2 ∧ δ' = [.no, .bag, .no, .dat (hD h), .dat (kD k0), .dat (kD m2), .dat (.int way), .no, .no, .no, .no, .no, .no]) ?_ ?_
      · refine ss_if (wt_eq (R' := fun _ => True) ?_ fun b _ => ⟨fun z => ?_, fun _ => ?_⟩)
        · repeat bv_omega
          try trivial
        · refine ss_set ?_
          repeat bv_omega
          exact callOk h rfl hh (by rintro d ⟨m2, rfl, h2⟩; exact ⟨m2, h2, rfl⟩)
        · repeat bv_omega
          exact ⟨m0, hm0, rfl⟩
      rintro δ' ⟨m1, hm1, rfl⟩
      try with_reducible refine ss_seq ?_
      refine ss_imp (N' := fun δ' => ∃ k2 m2, (Vk h k2 ∧ Vk h m2) ∧ δ' = [.no, .bag, .no, .dat (hD h), .dat (kD k2), .dat (kD m2), .dat (.int way), .no, .no, .no, .no, .no, .no]) ?_ ?_
      · refine ss_if (wt_eq (R' := fun _ => True) ?_ fun b _ => ⟨fun z => ?_, fun _ => ?_⟩)
        · repeat bv_omega
          try trivial
        · refine ss_asg (is := [4, 5]) ?_
          repeat bv_omega
          refine callOk h rfl hh ?_
          rintro d ⟨k2, m2, rfl, h2, h3⟩
          repeat bv_omega
          exact ⟨k2, m2, ⟨h2, h3⟩, rfl⟩
        · repeat bv_omega
          exact ⟨k0, m1, ⟨hk0, hm1⟩, rfl⟩
      rintro δ' ⟨k, m, ⟨hk, hm⟩, rfl⟩
      have hkk := hk.kok hh
      have hmk := hm.kok hh
      have hn0 := hh.n0
      have hn1 := hh.n1
      have hm0' := hh.m0
      have hm1' := hh.m1
      have hkl := hk.len
      have hml := hm.len
      have hkf := hk.nf
      have hmf := hm.nf
      clear hk0 hm0 hm1
      refine ss_le (δ' := [.no, .bag, .no, .dat (hD h), .dat (kD k), .dat (kD m), .no, .no, .no, .no, .no, .no, .no]) (by symm_saturate) ?_
      -- shown, same
      try with_reducible refine ss_seq ?_
      refine ss_par (by simp) (by simp) (by decide) ?_
      refine ws_dat ?_
      with_reducible refine we_cb rc_repr ?_
      repeat bv_omega
      refine ⟨⟨_, _, shows_two hh hk hm, by omega, by decide⟩, ?_⟩
      refine ws_dat (we_imp (R' := fun d => d = .bool (smB k m)) ?_ ?_)
      · repeat bv_omega
        refine callOk k rfl hkk ?_
        rintro d rfl
        repeat bv_omega
        refine callOk m rfl hmk ?_
        rintro d rfl
        refine dEq_f fBss ?_
        refine ⟨_, rfl, fun hb => ?_, fun hb => ?_⟩
        · have hb := of_decide_eq_true hb
          repeat bv_omega
          refine callOk k rfl ⟨hkk.sw, hkk.ne⟩ ?_
          rintro d rfl
          repeat bv_omega
          refine callOk m rfl ⟨hmk.sw, hmk.ne⟩ ?_
          rintro d rfl
          refine dEq_f fTI ?_
          refine congrArg PyData.bool (beq_of (p := Same k m) ?_ smB_iff)
          rw [decide_eq_true_iff, ← blocks_same hk hm]
          exact ⟨fun z => ⟨hb, z⟩, fun z => z.2⟩
        · have hb := of_decide_eq_false hb
          refine congrArg PyData.bool (beq_of (p := Same k m) ?_ smB_iff)
          rw [← blocks_same hk hm]
          exact ⟨(fun z => nomatch z), fun z => absurd z.1 hb⟩
      rintro d rfl
      refine ws_nil ⟨_, _, rfl, ?_⟩
      dsimp only [List.set]
      generalize eshown : PyData.shown (.list [kD k, kD m]) = shown
      -- due
      try with_reducible refine ss_seq ?_
      refine ss_set (we_of_wl (wl_lst ?_))
      repeat bv_omega
      refine callOk (k, m) rfl ⟨hkk, hmk⟩ ?_
      rintro d ⟨l1, rfl, e1⟩
      repeat bv_omega
      refine callOk (m, k) rfl ⟨hmk, hkk⟩ ?_
      rintro d ⟨l2, rfl, e2⟩
      repeat bv_omega
      dsimp only [List.set]
      -- small houses
      try with_reducible refine ss_seq ?_
      refine ss_imp (N' := fun δ' => Le δ' [.no, .bag, .no, .dat (hD h), .dat (kD k), .dat (kD m), .no, .dat (.str shown), .dat (.bool (smB k m)), .dat (.list [.bool l1, .bool l2]), .no, .no, .no]) ?_ ?_
      · with_reducible refine ss_if ?_
        repeat bv_omega
        refine callOk h rfl trivial ?_
        rintro d ⟨b, rfl, hb⟩
        refine ⟨_, rfl, fun z => ?_, fun _ => ?_⟩
        · obtain ⟨z1, z2, z3⟩ := hb z
          have hkn : h.1 = k.1.length := by omega
          have hmn : h.1 = m.1.length := by omega
          have hall := allS_len z3 h.1.toNat
          have h5 := pow4 (i := h.1.toNat) (by omega)
          have hfk : (fitS h k).length ≤ 100000 := by
            have : (fitS h k).length ≤ (allS h.2 h.1.toNat).length := List.length_filter_le _ _
            omega
          have hfm : (fitS h m).length ≤ 100000 := by
            have : (fitS h m).length ≤ (allS h.2 h.1.toNat).length := List.length_filter_le _ _
            omega
          try with_reducible refine ss_seq ?_
          refine ss_set (we_of_wl (wl_lst ?_))
          repeat bv_omega
          refine callOk (h, k) rfl ⟨hn0, z1, z3, hkk, hkn⟩ ?_
          rintro d rfl
          repeat bv_omega
          refine callOk (h, m) rfl ⟨hn0, z1, z3, hmk, hmn⟩ ?_
          rintro d rfl
          repeat bv_omega
          dsimp only [List.set]
          try with_reducible refine ss_seq ?_
          with_reducible refine ss_if ?_
          refine wt_test (we_op rd_ne (we_var rfl (we_of_wl (wl_lst (wa_cons (we_imp (we_none (i := 0) (j := 1) (ls := [fitS h k, fitS h m]) rfl (by simp) rfl rfl hfk) ?_))))))
          rintro d rfl
          refine wa_cons (we_imp (we_none (i := 1) (j := 0) (ls := [fitS h k, fitS h m]) rfl (by simp) rfl rfl hfm) ?_)
          rintro d rfl
          refine wa_nil ⟨by rw [sizeLine_eq]; simp, ?_⟩
          refine dNe_f (a := [l1, l2]) (b := [_, _]) fBL ?_
          have q1 : l1 = decide (∀ x ∈ fitS h k, x ∈ fitS h m) := beq_of e1 (by rw [decide_eq_true_iff]; exact (lies_iff hh hk hm).symm)
          have q2 : l2 = decide (∀ x ∈ fitS h m, x ∈ fitS h k) := beq_of e2 (by rw [decide_eq_true_iff]; exact (lies_iff hh hm hk).symm)
          refine ⟨_, rfl, fun hb => ?_, fun _ => ?_⟩
          · exfalso
            rw [← q1, ← q2] at hb
            simp at hb
          · with_reducible refine ss_next ?_
            with_reducible refine ss_forL [11] ?_
            repeat bv_omega
            refine callOk h rfl ⟨hn0, z1, z3⟩ ?_
            rintro d rfl
            repeat bv_omega
            refine callOk ((allS h.2 h.1.toNat).map tI) rfl (by show (List.map _ _).length ≤ 100000; rw [List.length_map]; omega) ?_
            rintro d ⟨ys, rfl, hp⟩
            repeat bv_omega
            rw [show (12 : Int) = ((12 : Nat) : Int) by rfl, cutD_upto]
            obtain ⟨sts, esl, hst⟩ := as_map tI (allS h.2 h.1.toNat) (ys.take 12) fun d hd => by
              obtain ⟨s, hs, e⟩ := List.mem_map.mp (hp.subset (List.mem_of_mem_take hd))
              exact ⟨s, hs, e.symm⟩
            rw [esl]
            refine forOk1 sts tI rfl (fun _ => [.no, .bag, .no, .dat (hD h), .dat (kD k), .dat (kD m), .no, .dat (.str shown), .dat (.bool (smB k m)), .dat (.list [.bool l1, .bool l2]), .dat (.list [.list ((fitS h k).map tI), .list ((fitS h m).map tI)]), .no, .no]) (Le.refl _) (fun j st hj => ?_) ?_
            · have hs := hst st (List.mem_of_getElem? hj)
              have hl := allS_each _ _ hs
              repeat bv_omega
              dsimp only [List.set]
              with_reducible refine ss_if ?_
              repeat bv_omega
              refine callOk (h, k, st) rfl ⟨by show st.length ≤ 100000; omega, by show h.2.length ≤ 100000; omega, hkk.so, hkk.sw, hkk.len, fun t ht => ?_⟩ ?_
              · have := hkk.rng t ht
                show 0 ≤ t ∧ t.toNat < st.length
                omega
              rintro d ⟨f1, rfl, g1⟩
              repeat bv_omega
              refine callOk (h, m, st) rfl ⟨by show st.length ≤ 100000; omega, by show h.2.length ≤ 100000; omega, hmk.so, hmk.sw, hmk.len, fun t ht => ?_⟩ ?_
              · have := hmk.rng t ht
                show 0 ≤ t ∧ t.toNat < st.length
                omega
              rintro d ⟨f2, rfl, g2⟩
              repeat bv_omega
              refine dIn_f fTI ?_
              repeat bv_omega
              refine dIn_f fTI ?_
              repeat bv_omega
              have m1 : ∀ {k : Know} {f : Bool} (_ : Decidable (st ∈ fitS h k)), (f = true ↔ Fits h.2.length k st) → f = decide (st ∈ fitS h k) := fun {k f} _ g => beq_of g (by
                classical
                rw [decide_eq_true_iff]
                unfold fitS
                exact ⟨fun z => of_decide_eq_true (List.mem_filter.mp z).2, fun z => List.mem_filter.mpr ⟨hs, decide_eq_true z⟩⟩)
              rw [← m1 _ g1, ← m1 _ g2]
              refine callOk ([f1, f2], [f1, f2]) rfl ⟨by simp, by simp⟩ ?_
              rintro d rfl
              refine ⟨_, rfl, fun hb => ?_, fun _ => ?_⟩
              · exfalso
                simp at hb
              · repeat bv_omega
                symm_saturate
            · symm_saturate
        · repeat bv_omega
          symm_saturate
      intro δ' l
      refine ss_le l ?_
      clear l δ'
      -- same != (due == [True, True])
      try with_reducible refine ss_seq ?_
      with_reducible refine ss_if ?_
      repeat bv_omega
      refine dEq_f (a := [l1, l2]) (b := [true, true]) fBL ?_
      refine dNe_f Faith.bool ?_
      have both : (l1 = true ∧ l2 = true) ↔ smB k m = true := by rw [e1, e2, smB_iff]; exact lies_same hk hm
      refine ⟨_, rfl, fun hb => ?_, fun _ => ?_⟩
      · exfalso
        have : smB k m = decide ([l1, l2] = [true, true]) := beq_of both.symm (by simp)
        rw [← this] at hb
        simp at hb
      with_reducible refine ss_next ?_
      -- told
      try with_reducible refine ss_seq ?_
      refine ss_set (we_of_wl (wl_lst ?_))
      repeat bv_omega
      refine callOk (k, m) rfl ⟨hkk, hmk⟩ ?_
      rintro d rfl
      repeat bv_omega
      refine callOk (m, k) rfl ⟨hmk, hkk⟩ ?_
      rintro d rfl
      repeat bv_omega
      refine callOk (h, k, m) rfl ⟨hkk, hmk, by show m.1.length ≤ 1000; omega, by show m.2.length ≤ 1000; omega, by show -10 ≤ h.1; omega, by show h.1 ≤ 1000; omega⟩ ?_
      rintro d ⟨b3, rfl, e3⟩
      repeat bv_omega
      refine callOk (h, m, k) rfl ⟨hmk, hkk, by show k.1.length ≤ 1000; omega, by show k.2.length ≤ 1000; omega, by show -10 ≤ h.1; omega, by show h.1 ≤ 1000; omega⟩ ?_
      rintro d ⟨b4, rfl, e4⟩
      repeat bv_omega
      dsimp only [List.set]
      have n1 : decide (normal k = normal m) = smB k m := beq_of (by rw [decide_eq_true_iff]; exact normal_same hk hm) smB_iff
      have n2 : decide (normal m = normal k) = smB k m := beq_of (by rw [decide_eq_true_iff, eq_comm]; exact normal_same hk hm) smB_iff
      have n3 : b3 = l1 := beq_of (e3.trans (lies_in_eq hk hm)) e1
      have n4 : b4 = l2 := beq_of (e4.trans (lies_in_eq hm hk)) e2
      rw [n1, n2, n3, n4]
      -- alike
      try with_reducible refine ss_seq ?_
      with_reducible refine ss_if ?_
      repeat bv_omega
      refine dAdd_list (xs := [.bool (smB k m), .bool (smB k m)]) (ys := [.bool l1, .bool l2]) (by rw [sizeLine_eq]; simp) ?_
      repeat bv_omega
      refine callOk ([smB k m, smB k m, l1, l2], [smB k m, smB k m, l1, l2]) rfl ⟨by simp, by simp⟩ ?_
      rintro d rfl
      refine ⟨_, rfl, fun hb => ?_, fun _ => ?_⟩
      · exfalso
        simp at hb
      repeat bv_omega
      refine callOk (k, k) rfl ⟨hkk, hkk⟩ ?_
      rintro d rfl
      repeat bv_omega
      refine callOk (h, m, m) rfl ⟨hmk, hmk, by show m.1.length ≤ 1000; omega, by show m.2.length ≤ 1000; omega, by show -10 ≤ h.1; omega, by show h.1 ≤ 1000; omega⟩ ?_
      rintro d ⟨b5, rfl, e5⟩
      repeat bv_omega
      have n5 : b5 = true := e5.mpr ((lies_in_eq hm hm).mpr ((lies_iff hh hm hm).mpr fun _ z => z))
      subst n5
      rw [decide_eq_true (rfl : normal k = normal k)]
      refine callOk ([true, true], [true, true]) rfl ⟨by simp, by simp⟩ ?_
      rintro d rfl
      refine ⟨_, rfl, ?_⟩
      refine ⟨fun hb => ?_, fun _ => ?_⟩
      · exfalso
        simp at hb
      with_reducible refine ss_next ?_
      -- normal orders, what is shown
      try with_reducible refine ss_seq ?_
      with_reducible refine ss_if ?_
      repeat bv_omega
      refine callOk k rfl hkk ?_
      rintro d rfl
      repeat bv_omega
      refine callOk m rfl hmk ?_
      rintro d rfl
      refine dEq_f fK ?_
      rw [n1]
      repeat bv_omega
      refine dNe_f Faith.bool ?_
      refine ⟨_, rfl, fun hb => ?_, fun _ => ?_⟩
      · exfalso
        simp at hb
      refine wt_test (we_op rd_neS ?_)
      with_reducible refine we_cb rc_repr ?_
      repeat bv_omega
      refine ⟨⟨_, _, shows_two hh hk hm, by omega, by decide⟩, ?_⟩
      repeat bv_omega
      rw [eshown]
      refine ⟨fun hb => ?_, fun _ => ?_⟩
      · exfalso
        simp at hb
      with_reducible refine ss_next ?_
      -- blocks
      with_reducible refine ss_if ?_
      repeat bv_omega
      refine callOk k rfl ⟨hkk.sw, hkk.ne⟩ ?_
      rintro d rfl
      repeat bv_omega
      refine callOk m rfl ⟨hmk.sw, hmk.ne⟩ ?_
      rintro d rfl
      refine dEq_f fTI ?_
      refine ⟨_, rfl, fun hz => ?_, fun _ => ?_⟩
      · have hz := of_decide_eq_true hz
        repeat bv_omega
        refine callOk k rfl hkk ?_
        rintro d rfl
        repeat bv_omega
        refine callOk m rfl hmk ?_
        rintro d rfl
        refine dEq_f fBss ?_
        have n6 : decide (blocks k = blocks m) = smB k m := beq_of (by rw [decide_eq_true_iff, ← blocks_same hk hm]; exact ⟨fun z => ⟨z, hz⟩, fun z => z.1⟩) smB_iff
        rw [n6]
        repeat bv_omega
        refine dNe_f Faith.bool ?_
        refine ⟨_, rfl, fun hb => ?_, fun _ => ?_⟩
        · exfalso
          simp at hb
        · repeat bv_omega
          symm_saturate
      · refine ⟨fun z => (nomatch z), fun _ => ?_⟩
        repeat bv_omega
        symm_saturate
    · repeat bv_omega
      try rfl
  · subst e
    rw [r.bl_inv]
    exact q _

end
section
/-! FkQ: the knowledge at first. -/
theorem wl_sk {M : Mx} {δ : List SD} {T : Addr × Str} {iN iS : Nat} {n : Nat} {st : List Int} {RL : List D → Prop} (hB : M.B = { tab := some T }) (hN : δ[iN]? = some (.dat (.int n))) (hS : δ[iS]? = some (.dat (tI st))) (hl : st.length = n) (hz : n ≤ 1000)
    (r : ∀ ns : List Int, ns.Perm (rgN n) → RL (ns.map .int)) : WL M (tSK T iN iS) δ RL := fun G H σ s Q q => by
  obtain ⟨v, hv, pv⟩ := s.sl iN _ hN
  have ev := pv.int_inv
  subst ev
  obtain ⟨u, hu, pu⟩ := s.sl iS _ hS
  obtain ⟨a, xs, rfl, ha, hx⟩ := pu.tup_inv
  have ex := hx.of_ints
  subst ex
  have tabE : M.B.tab = some T := by rw [hB]
  obtain ⟨gP, tab⟩ := s.ok.tab T.1 T.2 tabE
  refine ⟨tab, n, a, st, hv, hu, ha.same s.ok.gh, hl, hz, fun H1 p ns hH t1 hp hperm => ?_⟩
  have hp0 : H p = none := by
    cases e : H p with
    | none => rfl
    | some o =>
      by_cases z : p = T.1
      · obtain ⟨ps, h1, _⟩ := t1
        rw [z, h1] at hp
        cases hp
      · rw [hH p o z e] at hp
        cases hp
  have nb : ∀ b, NotB M.B b → b ≠ T.1 := fun b h => h.2 T tabE
  have ok1 : Ok M.B G H1 := ⟨fun b o e => hH b o (fun z => by rw [z, gP] at e; cases e) (s.ok.gh b o e), fun b c e => (by rw [hB] at e; cases e), fun P q e => by
    rw [tabE] at e
    have e2 := Option.some.inj e
    subst e2
    exact ⟨gP, t1⟩⟩
  have st1 : Stp M.B G H G H1 := ⟨Same.refl G, fun b o h e => hH b o (nb b h) e, fun b _ g => g, fun b h => by
    by_cases z : b = T.1
    · obtain ⟨ps, h1, _⟩ := t1
      rw [z, h1]
      exact fun z => nomatch z
    · obtain ⟨o, e⟩ := some_of h
      rw [hH b o z e]
      exact fun z => nomatch z⟩
  obtain ⟨st2, ok2⟩ := Stp.newH ok1 (.lst (ns.map V.int)) hp
  exact q _ p _ G _ (r ns hperm) (st1.trans st2) ok2 hp0 (ok1.free hp) upd_same (RpA.ints ns)
/-! ### words by a formula -/
def formW (n : Nat) (F : Int → Int → Int) (s : Int) : List Int := (List.range (n + 1)).map fun (c : Nat) => F s c
theorem gd_formW {n : Nat} {F : Int → Int → Int} {s : Int} {i : Nat} (h : i ≤ n) : gd (formW n F s) i = F s i := by
  refine gd_some ?_
  unfold formW
  rw [List.getElem?_map, List.getElem?_range (by omega)]
  rfl
theorem tight_form {n : Nat} {szs : List Int} {F : Int → Int → Int} (h1 : ∀ s ∈ szs, F s 0 = 0 ∧ F s n = s ∧ ∀ i : Nat, i < n → F s i ≤ F s (i + 1 : Nat) ∧ F s (i + 1 : Nat) ≤ F s i + 1)
    (h2 : ∀ s s' : Int, s ≤ s' → ∀ i : Nat, i ≤ n → F s i ≤ F s' i ∧ F s' i ≤ F s i + (s' - s)) (hm : ∀ f, f + 1 < szs.length → gd szs f ≤ gd szs (f + 1)) : TightWs n szs (szs.map (formW n F)) := by
  have at_ : ∀ (f : Nat) (w : List Int), (szs.map (formW n F))[f]? = some w → f < szs.length ∧ w = formW n F (gd szs f) ∧ gd szs f ∈ szs := fun f w hw => by
    rw [List.getElem?_map] at hw
    cases e : szs[f]? with
    | none => rw [e] at hw; cases hw
    | some s =>
      rw [e] at hw
      cases hw
      have e2 := gd_some e
      exact ⟨(List.getElem?_eq_some_iff.mp e).1, by rw [e2], by rw [e2]; exact List.mem_of_getElem? e⟩
  refine ⟨List.length_map _, fun f w hw => ?_, fun f w v hw hv i hi => ?_⟩
  · obtain ⟨hf, rfl, hs⟩ := at_ f w hw
    obtain ⟨a1, a2, a3⟩ := h1 _ hs
    refine ⟨by simp [formW], by rw [gd_formW (Nat.zero_le _)]; exact a1, fun i hi => ?_, by rw [gd_formW (Nat.le_refl _)]; exact a2⟩
    rw [gd_formW (by omega), gd_formW (by omega)]
    exact a3 i hi
  · obtain ⟨hf, rfl, hs⟩ := at_ f w hw
    obtain ⟨hf2, rfl, hs2⟩ := at_ (f + 1) v hv
    rw [gd_formW hi, gd_formW hi]
    exact h2 _ _ (hm f hf2) i hi
theorem sum_take_succ {l : List Int} {f : Nat} (h : f < l.length) : (l.take (f + 1)).sum = (l.take f).sum + gd l f := by
  rw [take_snoc (List.getElem?_eq_getElem h), List.sum_append]
  have : gd l f = l[f] := gd_some (List.getElem?_eq_getElem h)
  rw [this]
  simp
theorem sum_take_le {l : List Int} (h : ∀ x ∈ l, 0 ≤ x) (f : Nat) : 0 ≤ (l.take f).sum ∧ (l.take f).sum ≤ l.sum := by
  induction l generalizing f with
  | nil => simp
  | cons x l ih =>
    have hx := h x (.head _)
    cases f with
    | zero =>
      have := ih (fun y hy => h y (.tail _ hy)) l.length
      rw [List.take_of_length_le (Nat.le_refl _)] at this
      simp
      omega
    | succ f =>
      have := ih (fun y hy => h y (.tail _ hy)) f
      simp
      omega
theorem wsD_form (l : List Int) (g : Int → List Int) : PyData.tuple (l.map fun s => tI (g s)) = wsD (l.map g) := by
  show _ = PyData.tuple (List.map _ (List.map _ _))
  rw [List.map_map]
  rfl
def roomsW (rooms : List Int) : List Int := (List.range rooms.length).map fun f => (rooms.take (f + 1)).sum
theorem gd_roomsW {rooms : List Int} {f : Nat} (h : f < rooms.length) : gd (roomsW rooms) f = (rooms.take (f + 1)).sum := by
  refine gd_some ?_
  unfold roomsW
  rw [List.getElem?_map, List.getElem?_range h]
  rfl
theorem roomsW_ok {h : House} (hh : HOk h) (hs : h.2.sum ≤ h.1) : SzOk h (roomsW h.2) := by
  have hr := hh.r00
  have hlen : (roomsW h.2).length = h.2.length := by simp [roomsW]
  have m0 := hh.m0
  refine ⟨hlen, fun s hs' => ?_, fun f hf => ?_, ?_, fun f hf => ?_⟩
  · obtain ⟨f, _, rfl⟩ := List.mem_map.mp hs'
    have := sum_take_le hr (f + 1)
    omega
  · rw [hlen] at hf
    rw [gd_roomsW (by omega), gd_roomsW hf, sum_take_succ hf]
    have : 0 ≤ gd h.2 (f + 1) := by
      have e : h.2[f + 1]? = some (h.2[f + 1]) := List.getElem?_eq_getElem hf
      rw [gd_some e]
      exact hr _ (List.getElem_mem hf)
    omega
  · rw [gd_roomsW (by omega), sum_take_succ (by omega)]
    simp
  · rw [gd_roomsW hf, gd_roomsW (f := f) (by omega), sum_take_succ hf]
    omega
theorem first_none {h : House} (hh : HOk h) (hs : h.2.sum ≤ h.1) : Vk h (rgI h.1, (roomsW h.2).map (formW h.1.toNat fun s c => max 0 (s - (h.1 - c)))) := by
  have z := roomsW_ok hh hs
  have n0 := hh.n0
  refine Vk.of (List.Perm.refl _) z (tight_form (fun s hs' => ?_) (fun s s' hs i hi => ?_) z.mono)
  · have := z.rng s hs'
    refine ⟨?_, ?_, fun i hi => ?_⟩
    · show max 0 (s - (h.1 - ((0 : Nat) : Int))) = 0
      omega
    · show max 0 (s - (h.1 - (h.1.toNat : Nat))) = s
      omega
    · show max 0 (s - (h.1 - (i : Nat))) ≤ max 0 (s - (h.1 - ((i + 1 : Nat) : Int))) ∧ max 0 (s - (h.1 - ((i + 1 : Nat) : Int))) ≤ max 0 (s - (h.1 - (i : Nat))) + 1
      omega
  · show max 0 (s - (h.1 - (i : Nat))) ≤ max 0 (s' - (h.1 - (i : Nat))) ∧ max 0 (s' - (h.1 - (i : Nat))) ≤ max 0 (s - (h.1 - (i : Nat))) + (s' - s)
    omega
theorem first_some {h : House} {st o : List Int} (hh : HOk h) (hs : StOk h st) (ho : o.Perm (rgI h.1)) : Vk h (o, (sizesL h.2.length st).map (formW h.1.toNat fun s c => min c s)) := by
  have z := hs.sz hh
  have n0 := hh.n0
  refine Vk.of ho z (tight_form (fun s hs' => ?_) (fun s s' hs i hi => ?_) z.mono)
  · have := z.rng s hs'
    refine ⟨?_, ?_, fun i hi => ?_⟩
    · show min ((0 : Nat) : Int) s = 0
      omega
    · show min ((h.1.toNat : Nat) : Int) s = s
      omega
    · show min ((i : Nat) : Int) s ≤ min ((i + 1 : Nat) : Int) s ∧ min ((i + 1 : Nat) : Int) s ≤ min ((i : Nat) : Int) s + 1
      omega
  · show min ((i : Nat) : Int) s ≤ min ((i : Nat) : Int) s' ∧ min ((i : Nat) : Int) s' ≤ min ((i : Nat) : Int) s + (s' - s)
    omega
variable {T : Addr × Str} {K : PySem.W.Frag}
theorem d_law_first_known (a) (h : C_law_first_known.pre a) (M : Mx) (hB : M.B = { tab := some T }) : SS M (t__law_first_known K T (spP C_law_sizes) (spP C_law_rooms_within)) ((C_law_first_known.args a).map SD.dat ++ slots n__law_first_known 2) (fun _ => C_law_first_known.post a .none) ⟨C_law_first_known.post a, fun _ => False, fun _ => False⟩ := by
  obtain ⟨⟨n, rooms⟩, d⟩ := a
  obtain ⟨hh, hs⟩ := h
  have hh : HOk (n, rooms) := hh
  have hs : StartOk (n, rooms) d := hs
  have n0 : 0 ≤ n := hh.n0
  have n1 : n ≤ 16 := hh.n1
  have m0 : 1 ≤ rooms.length := hh.m0
  have m1 : rooms.length ≤ 4 := hh.m1
  show SS M (t__law_first_known K T _ _) [.dat (hD (n, rooms)), .dat d, .no, .no, .no, .no, .no, .no] _ _
  unfold t__law_first_known
  try with_reducible refine ss_seq ?_
  refine ss_tup (n := 2) (is := [2, 3]) rfl ?_ ?_ ?_
  · simp [sizeLine_eq]
  · simp
  refine ws_dat ?_
  repeat bv_omega
  refine ws_own (wl_lst ?_)
  repeat bv_omega
  refine ws_nil ⟨rfl, ?_⟩
  dsimp only [setAll, List.set]
  have en : PyData.int n = PyData.int ((n.toNat : Nat) : Int) := by rw [Int.toNat_of_nonneg n0]
  try with_reducible refine ss_seq ?_
  rcases hs with ⟨rfl, hsum⟩ | ⟨st, rfl, hst⟩
  · with_reducible refine ss_if ?_
    repeat bv_omega
    refine ⟨rfl, true, rfl, fun _ => ?_, (fun z => nomatch z)⟩
    try with_reducible refine ss_seq ?_
    with_reducible refine ss_forL [4] ?_
    repeat bv_omega
    refine callOk (n, rooms) rfl (by show rooms.length ≤ 100000; omega) ?_
    rintro d rfl
    have hwl : (roomsW rooms).length = rooms.length := by simp [roomsW]
    repeat bv_omega
    refine forOk1 (roomsW rooms) .int rfl (fun i => [.dat (hD (n, rooms)), .dat .none, .dat (.int n), .own (((roomsW rooms).take i).map fun s => tI (formW n.toNat (fun s c => max 0 (s - (n - c))) s)), .no, .no, .no, .no]) (by symm_saturate) (fun i s hi => ?_) ?_
    · have hil := (List.getElem?_eq_some_iff.mp hi).1
      repeat bv_omega
      dsimp only [List.set]
      refine ss_append rfl ?_
      repeat bv_omega
      refine ⟨by omega, ?_⟩
      refine lcOkM (List.range (n + 1).toNat) _ (rgD_map0 _) (fun c => .int (max 0 (s - (n - (c : Nat))))) (sm_lt (by simp; omega)) (fun c c' hc => ?_) ?_
      · dsimp only [wipeD, List.set]
        repeat bv_omega
        refine ⟨rfl, ?_⟩
        repeat bv_omega
      repeat bv_omega
      have erow : (List.range (n + 1).toNat).map (fun (c : Nat) => PyData.int (max 0 (s - (n - (c : Nat))))) = (formW n.toNat (fun s c => max 0 (s - (n - c))) s).map .int := by
        unfold formW
        rw [List.map_map, show (n + 1).toNat = n.toNat + 1 by omega]
        rfl
      rw [erow]
      refine ⟨sm_lt (by rw [List.length_map, List.length_take]; omega), ?_⟩
      dsimp only [List.set]
      rw [take_snoc hi, List.map_append]
      symm_saturate
    · rw [List.take_of_length_le (Nat.le_refl _)]
      refine ss_frz (i := 3) rfl ?_
      dsimp only [List.set]
      repeat bv_omega
      refine ⟨by show 0 ≤ n ∧ n ≤ _; omega, ?_⟩
      repeat bv_omega
      refine ⟨(rgI n, (roomsW rooms).map (formW n.toNat fun s c => max 0 (s - (n - c)))), ?_, first_none hh hsum⟩
      rw [rgD_ints, wsD_form]
      rfl
  · have hl : (st.length : Int) = n := hst.len
    with_reducible refine ss_if ?_
    repeat bv_omega
    refine ⟨rfl, false, rfl, (fun z => nomatch z), fun _ => ?_⟩
    repeat bv_omega
    try with_reducible refine ss_seq ?_
    refine ss_set ?_
    with_reducible refine we_cb rc_tuple ?_
    refine wa_cons (we_of_wl (wl_sk (n := n.toNat) (st := st) hB (by show some (SD.dat (PyData.int n)) = _; rw [en]) rfl (by omega) (by omega) fun ns hns => ?_))
    repeat bv_omega
    have hns2 : ns.Perm (rgI n) := hns
    dsimp only [List.set]
    try with_reducible refine ss_seq ?_
    with_reducible refine ss_forL [6] ?_
    repeat bv_omega
    refine callOk ((n, rooms), st) rfl ⟨hl.symm, by show st.length ≤ 100000; omega, by show rooms.length ≤ 100000; omega⟩ ?_
    rintro d rfl
    have hwl : (sizesL rooms.length st).length = rooms.length := by simp [sizesL]
    repeat bv_omega
    refine forOk1 (sizesL rooms.length st) .int rfl (fun i => [.dat (hD (n, rooms)), .dat (tI st), .dat (.int n), .own (((sizesL rooms.length st).take i).map fun s => tI (formW n.toNat (fun s c => min c s) s)), .no, .dat (tI ns), .no, .no]) (by symm_saturate) (fun i s hi => ?_) ?_
    · have hil := (List.getElem?_eq_some_iff.mp hi).1
      repeat bv_omega
      dsimp only [List.set]
      refine ss_append rfl ?_
      repeat bv_omega
      refine ⟨by omega, ?_⟩
      refine lcOkM (List.range (n + 1).toNat) _ (rgD_map0 _) (fun c => .int (min (c : Nat) s)) (sm_lt (by simp; omega)) (fun c c' hc => ?_) ?_
      · dsimp only [wipeD, List.set]
        repeat bv_omega
        refine ⟨rfl, ?_⟩
        repeat bv_omega
      repeat bv_omega
      have erow : (List.range (n + 1).toNat).map (fun (c : Nat) => PyData.int (min (c : Nat) s)) = (formW n.toNat (fun s c => min c s) s).map .int := by
        unfold formW
        rw [List.map_map, show (n + 1).toNat = n.toNat + 1 by omega]
        rfl
      rw [erow]
      refine ⟨sm_lt (by rw [List.length_map, List.length_take]; omega), ?_⟩
      dsimp only [List.set]
      rw [take_snoc hi, List.map_append]
      symm_saturate
    · rw [List.take_of_length_le (Nat.le_refl _)]
      refine ss_frz (i := 3) rfl ?_
      dsimp only [List.set]
      repeat bv_omega
      refine ⟨(ns, (sizesL rooms.length st).map (formW n.toNat fun s c => min c s)), ?_, first_some hh hst hns2⟩
      rw [wsD_form]

end
end FK
/-! FkU: the end of a law row whose law asks for repr, with one table of code objects. -/
namespace FK
open PySem PySem.Spec PyProof.Rows L2
section
variable {P : Program} {w : World} {K : PySem.W.Frag} {mg mb : Str → Option Value} {k : Nat} {fa a cA pA : Addr} {fd : FuncData} {x : Str} {sp : Sp} {s : Shared} {vs : List Value} {ns : List Int}
theorem law_go (inK : K.In s.heap) (gl : s.heap.Ns mainGlobals mg) (bl : s.heap.Ns builtinsNs mb) (blb : ∀ y : Str, y ≠ "__name__" → mb y = bootBuiltins y) (nl : s.heap.NoLimit) (gn : s.gens = #[])
    (tb : s.heap.get? pA = some { cls := .none, data := .fields #[] }) (tbK : K.lookup pA = none) (cd : PySem.W.CodeHd s.heap cA pA)
    (bm : ∃ (m : Addr) (ob : Obj), mg "__builtins__" = some (.ref m) ∧ m ≠ builtinsNs ∧ s.heap.get? m = some ob ∧ ob.cls = .type "module" ∧ ob.dict = some builtinsNs ∧ ob.data = .plain)
    (sc : s.heap.get? a = some { cls := .type "list", data := .seq vs.toArray }) (hi : IntsAre vs ns) (hl : ns.length ≤ sizeLine) (hr : Room k callerA)
    (F : ∀ base : Heap, K.In base → base.Ns mainGlobals mg → LamX.TabB base mg cA pA → FnG P w K mg base CX0 k fa fd [x] sp) (bind : ∀ (s : Shared) (u : Value), BindsTo s fd ⟨[u], []⟩ [(x, u)])
    (ask : ∀ H : Hp, H pA = some (.tbl #[]) → SqL K H a (ns.map V.int) → sp [.ref a] H (fun v _ => v = .bl true) fun _ _ _ => False) :
    codeAny (model P w) callerA (.call (.ref fa) ⟨[.ref a], []⟩) (fun r s1 => r = .ok (.ret (.bool true)) ∧ OldK s.heap s1.heap ∧ s1.os = s.os ∧ AllBare s1.gens) s := by
  let ob : Obj := { cls := .type "list", data := .seq vs.toArray }
  let H : Hp := fun b => if b = pA then some (.tbl #[]) else if b = a ∧ (K.lookup a).isNone = true then some (.frz ob (.lst (ns.map V.int))) else none
  have apart : a ≠ pA := fun z => by rw [z, tb] at sc; cases sc
  have atT : H pA = some (.tbl #[]) := if_pos rfl
  have off : ∀ b, b ≠ pA → b ≠ a → H b = none := fun b h1 h2 => by
    show (if b = pA then _ else _) = _
    rw [if_neg h1, if_neg fun z => h2 z.1]
  have atA : H a = if (K.lookup a).isNone = true then some (.frz ob (.lst (ns.map V.int))) else none := by
    show (if a = pA then _ else _) = _
    rw [if_neg apart]
    by_cases z : (K.lookup a).isNone = true
    · rw [if_pos ⟨rfl, z⟩, if_pos z]
    · rw [if_neg fun y => z y.2, if_neg z]
  have rv := vals_ints hi
  have lk : ∀ b o, K.lookup b = some o → H b = none := fun b o e => by
    by_cases z1 : b = pA
    · rw [z1, tbK] at e; cases e
    · by_cases z2 : b = a
      · subst z2
        rw [atA, e]
        rfl
      · exact off b z1 z2
  have sq : SqL K H a (ns.map V.int) := by
    cases e : K.lookup a with
    | none =>
      refine .inl (.inr ⟨ob, ?_⟩)
      rw [atA, e]
      rfl
    | some o =>
      have q := inK a o e
      rw [sc] at q
      cases q
      exact .inr ⟨_, vs.toArray, _, e, rfl, rfl, rfl, by rw [List.size_toArray, hi.length]; exact hl, by simpa using rv⟩
  have ok : L2.HOk P w H s.heap := fun b u e => by
    by_cases z1 : b = pA
    · subst z1
      rw [atT] at e
      cases e
      exact tb
    · by_cases z2 : b = a
      · subst z2
        rw [atA] at e
        split at e
        · cases e
          exact ⟨sc, by rw [List.length_map]; exact hl, vs, _, rv, sc⟩
        · cases e
      · rw [off b z1 z2] at e
        cases e
  let base : Heap := hidT s.heap H
  -- an object that is no list and no empty table stands in the base
  have stands : ∀ b o, s.heap.get? b = some o → o ≠ ob → o ≠ { cls := .none, data := .fields #[] } → base.get? b = some o := fun b o e n1 n2 => hidT_get e (off b (fun z => by rw [z, tb] at e; exact n2 (Option.some.inj e).symm) fun z => by rw [z, sc] at e; exact n1 (Option.some.inj e).symm)
  have nsB : ∀ {b : Addr} {m : Str → Option Value}, s.heap.Ns b m → base.Ns b m := fun {b m} h => by
    obtain ⟨o, es, ep, e, d, r⟩ := h
    exact ⟨o, es, ep, stands b o e (fun z => by rw [z] at d; cases d) (fun z => by rw [z] at d; cases d), d, r⟩
  have inB : K.In base := fun b o e => hidT_get (inK b o e) (lk b o e)
  have nlB : base.NoLimit := by
    obtain ⟨mc, h1, h2⟩ := nl
    exact ⟨mc, nsB h1, h2⟩
  have md : L2.Mod K mg base := ⟨inB, nsB gl, ⟨mb, nsB bl, blb⟩, nlB⟩
  have tabB : LamX.TabB base mg cA pA := by
    refine ⟨?_, ?_, fun z => ?_⟩
    · obtain ⟨o, us, file, tf, flags, tg, inF, text, tt, e1, r1, r2, r3, rr⟩ := cd
      exact ⟨o, us, file, tf, flags, tg, inF, text, tt, stands cA o e1 (fun z => by rw [z] at r2; cases r2) (fun z => by rw [z] at r2; cases r2; simp at r3), r1, r2, r3, rr⟩
    · obtain ⟨m, o, b1, b2, b3, b4, b5, b6⟩ := bm
      refine ⟨m, o, b1, b2, fun z => ?_, fun z => ?_, stands m o b3 (fun z => by rw [z] at b6; cases b6) (fun z => by rw [z] at b6; cases b6), b4, b5, b6⟩
      · obtain ⟨o2, es, ep, e, d, _⟩ := id gl
        rw [z, e] at b3
        cases b3
        rw [d] at b6
        cases b6
      · rw [z, tb] at b3
        cases b3
        cases b6
    · obtain ⟨o2, es, ep, e, d, _⟩ := id gl
      rw [z, tb] at e
      cases e
      cases d
  have env : Env0 P w K mg base callerA [] s H := ⟨rfl, md, fun b o e => of_hidT e, Nat.le_of_eq (hidT_size _ _), trivial, fun b z => (List.not_mem_nil z).elim, ok, .of_eq gn⟩
  refine codeAny_mono ((F base inB (nsB gl) tabB).run callerA [] s H ⟨[.ref a], []⟩ [.ref a] [.ref a] _ _ rfl hr env (bind s (.ref a)) (.cons rfl .nil) (ask H atT sq)) fun r s1 h => ?_
  cases r with
  | error e => exact False.elim h
  | ok fl =>
    cases fl with
    | next => exact False.elim h
    | brk => exact False.elim h
    | cont => exact False.elim h
    | ret u =>
      obtain ⟨v, H1, os, bare, un, ok1, rel, q⟩ := h
      obtain rfl : v = .bl true := q
      obtain rfl : u = Value.bool true := rel
      have none0 : ∀ b : Addr, b ∉ ([] : List Addr) := fun b z => (List.not_mem_nil z).elim
      have same : ∀ b o, b ≠ pA → s.heap.get? b = some o → s1.heap.get? b = some o := fun b o nb e => by
        cases z : H b with
        | none => exact un.keep b o e z (none0 b) (none0 b)
        | some u =>
          by_cases z2 : b = a
          · subst z2
            rw [atA] at z
            split at z
            · cases z
              have y := atA
              rename_i hn
              rw [if_pos hn] at y
              have y2 := un.frzs _ ob _ y
              obtain ⟨e2, _⟩ := ok1 _ _ y2
              rw [sc] at e
              cases e
              exact e2
            · cases z
          · rw [off b nb z2] at z
            cases z
      obtain ⟨more, hm⟩ := un.tbls pA #[] atT
      have tb1 : s1.heap.get? pA = some { cls := .none, data := .fields (#[] ++ more) } := ok1 pA _ hm
      refine ⟨rfl, ⟨fun b o e => ?_, fun b o e => ?_⟩, os, bare⟩
      · by_cases z : b = pA
        · subst z
          have e' := e
          rw [tb] at e'
          cases e'
          exact .inr (.inl ⟨(cd.tab tb).isCodeTable, rfl, #[], #[] ++ more, rfl, by rw [Array.empty_append]; simpa using tb1⟩)
        · exact .inl (same b o z e)
      · by_cases z : b = pA
        · subst z
          exact ⟨_, tb1⟩
        · exact ⟨o, same b o z e⟩
end
/-- the end: what is known of the law's promise at the head's heap -/
theorem walk_go {l : PySem.W.OpenLaw} {n k : Nat} {q : Program} {loose : List Str} {XP : (Str → Option Value) → Heap → Prop} {YP : World → Heap → Prop} {d : DefRec} {K : Params → PySem.W.Frag} {x : Str}
    (hn : l.most = some n) (hz : n ≤ sizeLine) (hd : d.params.defaults = []) (hr : Room k callerA) (hY : ∀ (w : World) (h : Heap), YP w h → (K w.params).In h)
    (F : ∀ (w : World) (mg : Str → Option Value) (fa : Addr) (h : Heap), YP w h → (K w.params).In h → h.Ns mainGlobals mg → mg d.name = some (.ref fa) → ∃ (fd : FuncData) (cA pA : Addr) (sp : Sp),
      (h.get? pA = some { cls := .none, data := .fields #[] } ∧ (K w.params).lookup pA = none ∧ PySem.W.CodeHd h cA pA) ∧ (∀ (s : Shared) (u : Value), BindsTo s fd ⟨[u], []⟩ [(x, u)]) ∧
      (∀ (H : Hp) (a : Addr) (ns : List Int), ns.length ≤ n → H pA = some (.tbl #[]) → SqL (K w.params) H a (ns.map V.int) → sp [.ref a] H (fun v _ => v = .bl true) fun _ _ _ => False) ∧
      ∀ base : Heap, (K w.params).In base → base.Ns mainGlobals mg → LamX.TabB base mg cA pA → FnG l.prog w (K w.params) mg base CX0 k fa fd [x] sp) :
    PySem.W.WalkO q loose XP YP l.row.toRowW d [] (fun f vs => PySem.call f vs) :=
  Att.attach_callB hn hd fun w _ s mg mb fa _ _ _ _ a vs ns G Y _ _ _ hm sc hi hlen _ gn => by
    obtain ⟨fd, cA, pA, sp, ⟨t1, t2, t3⟩, hb, ha, hF⟩ := F w mg fa _ Y (hY w _ Y) G.T.g hm
    exact law_go (hY w _ Y) G.T.g G.T.b G.T.builtins G.T.nolimit gn t1 t2 t3 G.T.bmain sc hi (Nat.le_trans hlen hz) hr hF hb fun H h1 h2 => ha H a ns hlen h1 h2
end FK

/-! FkV: each def keeps its promise. Printed by genmk.py. -/
namespace FK
open PySem PySem.Spec PyProof.Rows L2
/-- where a def stands and what it is -/
def DefAt (K : PySem.W.Frag) (x : Str) (st : Stmt) : Prop := ∃ (f : Addr) (od an : Option Addr) (sl : Array (Option Value)) (oc kV dc pm cd ct : Value), PySem.W.nsIn K mainGlobals x = some (some (.ref f)) ∧
  K.lookup f = some ⟨oc, od, .func (PySem.W.fnOf x x (defArgs st) (defBody st) (defScope st) .none kV dc pm an cd ct), sl⟩ ∧ PySem.W.codeIn K cd x = true ∧ PySem.W.keepIn K (.ref f) = true
/-- .. whose code object is known, too -/
def DefAtC (K : PySem.W.Frag) (x : Str) (st : Stmt) (c : Addr) : Prop := ∃ (f : Addr) (od an : Option Addr) (sl : Array (Option Value)) (oc kV dc pm ct : Value), PySem.W.nsIn K mainGlobals x = some (some (.ref f)) ∧
  K.lookup f = some ⟨oc, od, .func (PySem.W.fnOf x x (defArgs st) (defBody st) (defScope st) .none kV dc pm an (.ref c) ct), sl⟩ ∧ PySem.W.codeIn K (.ref c) x = true ∧ PySem.W.keepIn K (.ref f) = true
section
variable {P : Program} {w : World} {K : PySem.W.Frag} {mg : Str → Option Value} {base h : Heap} {T : Addr × Str}
theorem k_things_within (X : K.In h) (G : h.Ns mainGlobals mg) (D : DefAt K "things_within" s_things_within)  (b_enumerate : mg "enumerate" = none) (b_tuple : mg "tuple" = none) : Cl P w K mg base 2 "things_within" (spP C_things_within) := by
  obtain ⟨f, od, an, sl, oc, kV, dc, pm, cd, ct, a, l, c, k⟩ := D
  have F : Fun K "things_within" "things_within" s_things_within f _ := fun_mk l c k
  exact cl_P F sc_things_within (F.binds (ps := p_things_within) fun _ _ _ _ _ _ us hl => match us, hl with | [_, _, _], _ => rfl) (PySem.W.mg_of X G a) (fun cdv A outer s H E hr => w_things_within hr b_enumerate b_tuple) (fun _ => rfl) (fun a h M _ => d_things_within a h M)
theorem k_sizes_of (X : K.In h) (G : h.Ns mainGlobals mg) (D : DefAt K "sizes_of" s_sizes_of) (c_things_within : Cl P w K mg base 2 "things_within" (spP C_things_within)) (b_range : mg "range" = none) (b_len : mg "len" = none) (b_tuple : mg "tuple" = none) : Cl P w K mg base 3 "sizes_of" (spP C_sizes_of) := by
  obtain ⟨f, od, an, sl, oc, kV, dc, pm, cd, ct, a, l, c, k⟩ := D
  have F : Fun K "sizes_of" "sizes_of" s_sizes_of f _ := fun_mk l c k
  exact cl_P F sc_sizes_of (F.binds (ps := p_sizes_of) fun _ _ _ _ _ _ us hl => match us, hl with | [_, _], _ => rfl) (PySem.W.mg_of X G a) (fun cdv A outer s H E hr => w_sizes_of hr c_things_within b_range b_len b_tuple) (fun _ => rfl) (fun a h M _ => d_sizes_of a h M)
theorem k_known_sizes (X : K.In h) (G : h.Ns mainGlobals mg) (D : DefAt K "known_sizes" s_known_sizes)  (b_tuple : mg "tuple" = none) : Cl P w K mg base 2 "known_sizes" (spP C_known_sizes) := by
  obtain ⟨f, od, an, sl, oc, kV, dc, pm, cd, ct, a, l, c, k⟩ := D
  have F : Fun K "known_sizes" "known_sizes" s_known_sizes f _ := fun_mk l c k
  exact cl_P F sc_known_sizes (F.binds (ps := p_known_sizes) fun _ _ _ _ _ _ us hl => match us, hl with | [_], _ => rfl) (PySem.W.mg_of X G a) (fun cdv A outer s H E hr => w_known_sizes hr b_tuple) (fun _ => rfl) (fun a h M _ => d_known_sizes a h M)
theorem k_fits (X : K.In h) (G : h.Ns mainGlobals mg) (D : DefAt K "fits" s_fits) (c_sizes_of : Cl P w K mg base 3 "sizes_of" (spP C_sizes_of)) (c_known_sizes : Cl P w K mg base 2 "known_sizes" (spP C_known_sizes)) (b_enumerate : mg "enumerate" = none) (b_int : mg "int" = none) (b_len : mg "len" = none) : Cl P w K mg base 4 "fits" (spP C_fits) := by
  obtain ⟨f, od, an, sl, oc, kV, dc, pm, cd, ct, a, l, c, k⟩ := D
  have F : Fun K "fits" "fits" s_fits f _ := fun_mk l c k
  exact cl_P F sc_fits (F.binds (ps := p_fits) fun _ _ _ _ _ _ us hl => match us, hl with | [_, _, _], _ => rfl) (PySem.W.mg_of X G a) (fun cdv A outer s H E hr => w_fits hr c_sizes_of c_known_sizes b_enumerate b_int b_len) (fun _ => rfl) (fun a h M _ => d_fits a h M)
theorem k_may_be_beyond (X : K.In h) (G : h.Ns mainGlobals mg) (D : DefAt K "may_be_beyond" s_may_be_beyond)  (b_enumerate : mg "enumerate" = none) (b_int : mg "int" = none) : Cl P w K mg base 2 "may_be_beyond" (spP C_may_be_beyond) := by
  obtain ⟨f, od, an, sl, oc, kV, dc, pm, cd, ct, a, l, c, k⟩ := D
  have F : Fun K "may_be_beyond" "may_be_beyond" s_may_be_beyond f _ := fun_mk l c k
  exact cl_P F sc_may_be_beyond (F.binds (ps := p_may_be_beyond) fun _ _ _ _ _ _ us hl => match us, hl with | [_, _, _], _ => rfl) (PySem.W.mg_of X G a) (fun cdv A outer s H E hr => w_may_be_beyond hr b_enumerate b_int) (fun _ => rfl) (fun a h M _ => d_may_be_beyond a h M)
theorem k_left_within (X : K.In h) (G : h.Ns mainGlobals mg) (D : DefAt K "left_within" s_left_within) (c_may_be_beyond : Cl P w K mg base 2 "may_be_beyond" (spP C_may_be_beyond))  : Cl P w K mg base 3 "left_within" (spP C_left_within) := by
  obtain ⟨f, od, an, sl, oc, kV, dc, pm, cd, ct, a, l, c, k⟩ := D
  have F : Fun K "left_within" "left_within" s_left_within f _ := fun_mk l c k
  exact cl_P F sc_left_within (F.binds (ps := p_left_within) fun _ _ _ _ _ _ us hl => match us, hl with | [_, _, _], _ => rfl) (PySem.W.mg_of X G a) (fun cdv A outer s H E hr => w_left_within hr c_may_be_beyond) (fun _ => rfl) (fun a h M _ => d_left_within a h M)
theorem k_state_around (X : K.In h) (G : h.Ns mainGlobals mg) (D : DefAt K "state_around" s_state_around) (c_known_sizes : Cl P w K mg base 2 "known_sizes" (spP C_known_sizes)) (b_tuple : mg "tuple" = none) (b_enumerate : mg "enumerate" = none) (b_len : mg "len" = none) : Cl P w K mg base 3 "state_around" (spP C_state_around) := by
  obtain ⟨f, od, an, sl, oc, kV, dc, pm, cd, ct, a, l, c, k⟩ := D
  have F : Fun K "state_around" "state_around" s_state_around f _ := fun_mk l c k
  exact cl_P F sc_state_around (F.binds (ps := p_state_around) fun _ _ _ _ _ _ us hl => match us, hl with | [_, _], _ => rfl) (PySem.W.mg_of X G a) (fun cdv A outer s H E hr => w_state_around hr c_known_sizes b_tuple b_enumerate b_len) (fun _ => rfl) (fun a h M _ => d_state_around a h M)
theorem k_extreme_within (X : K.In h) (G : h.Ns mainGlobals mg) (D : DefAt K "extreme_within" s_extreme_within) (c_state_around : Cl P w K mg base 3 "state_around" (spP C_state_around)) (c_left_within : Cl P w K mg base 3 "left_within" (spP C_left_within)) (b_len : mg "len" = none) : Cl P w K mg base 4 "extreme_within" (spP C_extreme_within) := by
  obtain ⟨f, od, an, sl, oc, kV, dc, pm, cd, ct, a, l, c, k⟩ := D
  have F : Fun K "extreme_within" "extreme_within" s_extreme_within f _ := fun_mk l c k
  exact cl_P F sc_extreme_within (F.binds (ps := p_extreme_within) fun _ _ _ _ _ _ us hl => match us, hl with | [_, _, _, _], _ => rfl) (PySem.W.mg_of X G a) (fun cdv A outer s H E hr => w_extreme_within hr c_state_around c_left_within b_len) (fun _ => rfl) (fun a h M _ => d_extreme_within a h M)
theorem k_least_within (X : K.In h) (G : h.Ns mainGlobals mg) (D : DefAt K "least_within" s_least_within) (c_extreme_within : Cl P w K mg base 4 "extreme_within" (spP C_extreme_within)) (b_range : mg "range" = none) : Cl P w K mg base 5 "least_within" (spP C_least_within) := by
  obtain ⟨f, od, an, sl, oc, kV, dc, pm, cd, ct, a, l, c, k⟩ := D
  have F : Fun K "least_within" "least_within" s_least_within f _ := fun_mk l c k
  exact cl_P F sc_least_within (F.binds (ps := p_least_within) fun _ _ _ _ _ _ us hl => match us, hl with | [_, _, _, _], _ => rfl) (PySem.W.mg_of X G a) (fun cdv A outer s H E hr => w_least_within hr c_extreme_within b_range) (fun _ => rfl) (fun a h M _ => d_least_within a h M)
theorem k_cuts_of (X : K.In h) (G : h.Ns mainGlobals mg) (D : DefAt K "cuts_of" s_cuts_of)  (b_range : mg "range" = none) (b_len : mg "len" = none) : Cl P w K mg base 2 "cuts_of" (spP C_cuts_of) := by
  obtain ⟨f, od, an, sl, oc, kV, dc, pm, cd, ct, a, l, c, k⟩ := D
  have F : Fun K "cuts_of" "cuts_of" s_cuts_of f _ := fun_mk l c k
  exact cl_P F sc_cuts_of (F.binds (ps := p_cuts_of) fun _ _ _ _ _ _ us hl => match us, hl with | [_], _ => rfl) (PySem.W.mg_of X G a) (fun cdv A outer s H E hr => w_cuts_of hr b_range b_len) (fun _ => rfl) (fun a h M _ => d_cuts_of a h M)
theorem k_blocks_of (X : K.In h) (G : h.Ns mainGlobals mg) (D : DefAt K "blocks_of" s_blocks_of) (c_cuts_of : Cl P w K mg base 2 "cuts_of" (spP C_cuts_of)) (b_tuple : mg "tuple" = none) (b_sorted : mg "sorted" = none) : Cl P w K mg base 3 "blocks_of" (spP C_blocks) := by
  obtain ⟨f, od, an, sl, oc, kV, dc, pm, cd, ct, a, l, c, k⟩ := D
  have F : Fun K "blocks_of" "blocks_of" s_blocks_of f _ := fun_mk l c k
  exact cl_P F sc_blocks_of (F.binds (ps := p_blocks_of) fun _ _ _ _ _ _ us hl => match us, hl with | [_], _ => rfl) (PySem.W.mg_of X G a) (fun cdv A outer s H E hr => w_blocks_of hr c_cuts_of b_tuple b_sorted) (fun _ => rfl) (fun a h M _ => d_blocks_of a h M)
theorem k_normal_of (X : K.In h) (G : h.Ns mainGlobals mg) (D : DefAt K "normal_of" s_normal_of) (c_cuts_of : Cl P w K mg base 2 "cuts_of" (spP C_cuts_of)) (b_tuple : mg "tuple" = none) (b_range : mg "range" = none) (b_len : mg "len" = none) (b_sorted : mg "sorted" = none) : Cl P w K mg base 3 "normal_of" (spP C_normal_of) := by
  obtain ⟨f, od, an, sl, oc, kV, dc, pm, cd, ct, a, l, c, k⟩ := D
  have F : Fun K "normal_of" "normal_of" s_normal_of f _ := fun_mk l c k
  exact cl_P F sc_normal_of (F.binds (ps := p_normal_of) fun _ _ _ _ _ _ us hl => match us, hl with | [_], _ => rfl) (PySem.W.mg_of X G a) (fun cdv A outer s H E hr => w_normal_of hr c_cuts_of b_tuple b_range b_len b_sorted) (fun _ => rfl) (fun a h M _ => d_normal_of a h M)
theorem k_alike (X : K.In h) (G : h.Ns mainGlobals mg) (D : DefAt K "alike" s_alike) (c_normal_of : Cl P w K mg base 3 "normal_of" (spP C_normal_of))  : Cl P w K mg base 4 "alike" (spP C_alike) := by
  obtain ⟨f, od, an, sl, oc, kV, dc, pm, cd, ct, a, l, c, k⟩ := D
  have F : Fun K "alike" "alike" s_alike f _ := fun_mk l c k
  exact cl_P F sc_alike (F.binds (ps := p_alike) fun _ _ _ _ _ _ us hl => match us, hl with | [_, _], _ => rfl) (PySem.W.mg_of X G a) (fun cdv A outer s H E hr => w_alike hr c_normal_of) (fun _ => rfl) (fun a h M _ => d_alike a h M)
theorem k_needs_of (X : K.In h) (G : h.Ns mainGlobals mg) (D : DefAt K "needs_of" s_needs_of) (c_cuts_of : Cl P w K mg base 2 "cuts_of" (spP C_cuts_of)) (b_enumerate : mg "enumerate" = none) (b_sorted : mg "sorted" = none) (b_tuple : mg "tuple" = none) : Cl P w K mg base 3 "needs_of" (spP C_needs_of) := by
  obtain ⟨f, od, an, sl, oc, kV, dc, pm, cd, ct, a, l, c, k⟩ := D
  have F : Fun K "needs_of" "needs_of" s_needs_of f _ := fun_mk l c k
  exact cl_P F sc_needs_of (F.binds (ps := p_needs_of) fun _ _ _ _ _ _ us hl => match us, hl with | [_], _ => rfl) (PySem.W.mg_of X G a) (fun cdv A outer s H E hr => w_needs_of hr c_cuts_of b_enumerate b_sorted b_tuple) (fun _ => rfl) (fun a h M _ => d_needs_of a h M)
theorem k_lies_in (X : K.In h) (G : h.Ns mainGlobals mg) (D : DefAt K "lies_in" s_lies_in) (c_needs_of : Cl P w K mg base 3 "needs_of" (spP C_needs_of)) (c_least_within : Cl P w K mg base 5 "least_within" (spP C_least_within)) (c_known_sizes : Cl P w K mg base 2 "known_sizes" (spP C_known_sizes)) (b_all : mg "all" = none) : Cl P w K mg base 6 "lies_in" (spP C_lies_in) := by
  obtain ⟨f, od, an, sl, oc, kV, dc, pm, cd, ct, a, l, c, k⟩ := D
  have F : Fun K "lies_in" "lies_in" s_lies_in f _ := fun_mk l c k
  exact cl_P F sc_lies_in (F.binds (ps := p_lies_in) fun _ _ _ _ _ _ us hl => match us, hl with | [_, _, _], _ => rfl) (PySem.W.mg_of X G a) (fun cdv A outer s H E hr => w_lies_in hr c_needs_of c_least_within c_known_sizes b_all) (fun _ => rfl) (fun a h M _ => d_lies_in a h M)
theorem k__law_bag (X : K.In h) (G : h.Ns mainGlobals mg) (D : DefAt K "_law_bag" s__law_bag)  (b_abs : mg "abs" = none) : Cl P w K mg base 2 "_law_bag" (spMk K T) := by
  obtain ⟨f, od, an, sl, oc, kV, dc, pm, cd, ct, a, l, c, k⟩ := D
  have F : Fun K "_law_bag" "_law_bag" s__law_bag f _ := fun_mk l c k
  exact cl_sp F sc__law_bag (F.binds (ps := p__law_bag) fun _ _ _ _ _ _ us hl => match us, hl with | [_], _ => rfl) (PySem.W.mg_of X G a) (fun cdv A outer s H E hr => w__law_bag hr b_abs) (fun vs H Q E h => bag_raw h)
theorem k__law_take (X : K.In h) (G : h.Ns mainGlobals mg) (D : DefAt K "_law_take" s__law_take)  (b_int : mg "int" = none) : Cl P w K mg base 2 "_law_take" (spB T C_law_take) := by
  obtain ⟨f, od, an, sl, oc, kV, dc, pm, cd, ct, a, l, c, k⟩ := D
  have F : Fun K "_law_take" "_law_take" s__law_take f _ := fun_mk l c k
  exact cl_B F sc__law_take (F.binds (ps := p__law_take) fun _ _ _ _ _ _ us hl => match us, hl with | [_, _], _ => rfl) (PySem.W.mg_of X G a) (fun cdv A outer s H E hr => w__law_take hr b_int) (fun _ => rfl) (fun a h M hM => d_law_take a h M hM)
theorem k__law_one (X : K.In h) (G : h.Ns mainGlobals mg) (D : DefAt K "_law_one" s__law_one) (c__law_take : Cl P w K mg base 2 "_law_take" (spB T C_law_take)) (b_len : mg "len" = none) : Cl P w K mg base 3 "_law_one" (spB T C_law_one) := by
  obtain ⟨f, od, an, sl, oc, kV, dc, pm, cd, ct, a, l, c, k⟩ := D
  have F : Fun K "_law_one" "_law_one" s__law_one f _ := fun_mk l c k
  exact cl_B F sc__law_one (F.binds (ps := p__law_one) fun _ _ _ _ _ _ us hl => match us, hl with | [_, _], _ => rfl) (PySem.W.mg_of X G a) (fun cdv A outer s H E hr => w__law_one hr c__law_take b_len) (fun _ => rfl) (fun a h M hM => d_law_one a h M hM)
theorem k__law_one_raw (X : K.In h) (G : h.Ns mainGlobals mg) (D : DefAt K "_law_one" s__law_one) (c__law_take : Cl P w K mg base 2 "_law_take" (spB T C_law_take)) (b_len : mg "len" = none) : Cl P w K mg base 3 "_law_one" (spOne T) := by
  obtain ⟨f, od, an, sl, oc, kV, dc, pm, cd, ct, a, l, c, k⟩ := D
  have F : Fun K "_law_one" "_law_one" s__law_one f _ := fun_mk l c k
  exact cl_sp F sc__law_one (F.binds (ps := p__law_one) fun _ _ _ _ _ _ us hl => match us, hl with | [_, _], _ => rfl) (PySem.W.mg_of X G a) (fun cdv A outer s H E hr => w__law_one hr c__law_take b_len) (fun vs H Q E h => one_raw h)
theorem k__law_mixed (X : K.In h) (G : h.Ns mainGlobals mg) (D : DefAt K "_law_mixed" s__law_mixed) (c__law_take : Cl P w K mg base 2 "_law_take" (spB T C_law_take)) (b_len : mg "len" = none) : Cl P w K mg base 3 "_law_mixed" (spB T C_law_mixed) := by
  obtain ⟨f, od, an, sl, oc, kV, dc, pm, cd, ct, a, l, c, k⟩ := D
  have F : Fun K "_law_mixed" "_law_mixed" s__law_mixed f _ := fun_mk l c k
  exact cl_B F sc__law_mixed (F.binds (ps := p__law_mixed) fun _ _ _ _ _ _ us hl => match us, hl with | [_, _], _ => rfl) (PySem.W.mg_of X G a) (fun cdv A outer s H E hr => w__law_mixed hr c__law_take b_len) (fun _ => rfl) (fun a h M hM => d_law_mixed a h M hM)
theorem k__law_alike (X : K.In h) (G : h.Ns mainGlobals mg) (D : DefAt K "_law_alike" s__law_alike)  (b_repr : mg "repr" = none) : ClG P w K mg base 2 "_law_alike" (spP C_law_alike) := by
  obtain ⟨f, od, an, sl, oc, kV, dc, pm, cd, ct, a, l, c, k⟩ := D
  have F : Fun K "_law_alike" "_law_alike" s__law_alike f _ := fun_mk l c k
  exact cl_PG F sc__law_alike (F.binds (ps := p__law_alike) fun _ _ _ _ _ _ us hl => match us, hl with | [_, _], _ => rfl) (PySem.W.mg_of X G a) (fun cdv A outer s H E gd hr => w__law_alike gd hr b_repr) (fun _ => rfl) (fun a h M _ => d_law_alike a h M)
theorem k__law_flat (X : K.In h) (G : h.Ns mainGlobals mg) (D : DefAt K "_law_flat" s__law_flat)   : Cl P w K mg base 2 "_law_flat" (spP C_law_flat) := by
  obtain ⟨f, od, an, sl, oc, kV, dc, pm, cd, ct, a, l, c, k⟩ := D
  have F : Fun K "_law_flat" "_law_flat" s__law_flat f _ := fun_mk l c k
  exact cl_P F sc__law_flat (F.binds (ps := p__law_flat) fun _ _ _ _ _ _ us hl => match us, hl with | [_], _ => rfl) (PySem.W.mg_of X G a) (fun cdv A outer s H E hr => w__law_flat hr ) (fun _ => rfl) (fun a h M _ => d_law_flat a h M)
theorem k__law_house (X : K.In h) (G : h.Ns mainGlobals mg) (D : DefAt K "_law_house" s__law_house) (c__law_take : Cl P w K mg base 2 "_law_take" (spB T C_law_take)) (c__law_one : Cl P w K mg base 3 "_law_one" (spB T C_law_one)) (b_tuple : mg "tuple" = none) (b_min : mg "min" = none) (b_range : mg "range" = none) : Cl P w K mg base 4 "_law_house" (spB T C_law_house) := by
  obtain ⟨f, od, an, sl, oc, kV, dc, pm, cd, ct, a, l, c, k⟩ := D
  have F : Fun K "_law_house" "_law_house" s__law_house f _ := fun_mk l c k
  exact cl_B F sc__law_house (F.binds (ps := p__law_house) fun _ _ _ _ _ _ us hl => match us, hl with | [_, _, _, _], _ => rfl) (PySem.W.mg_of X G a) (fun cdv A outer s H E hr => w__law_house hr c__law_take c__law_one b_tuple b_min b_range) (fun _ => rfl) (fun a h M hM => d_law_house a h M hM)
theorem k__law_rooms_within (X : K.In h) (G : h.Ns mainGlobals mg) (D : DefAt K "_law_rooms_within" s__law_rooms_within)  (b_range : mg "range" = none) (b_len : mg "len" = none) (b_sum : mg "sum" = none) : Cl P w K mg base 2 "_law_rooms_within" (spP C_law_rooms_within) := by
  obtain ⟨f, od, an, sl, oc, kV, dc, pm, cd, ct, a, l, c, k⟩ := D
  have F : Fun K "_law_rooms_within" "_law_rooms_within" s__law_rooms_within f _ := fun_mk l c k
  exact cl_P F sc__law_rooms_within (F.binds (ps := p__law_rooms_within) fun _ _ _ _ _ _ us hl => match us, hl with | [_], _ => rfl) (PySem.W.mg_of X G a) (fun cdv A outer s H E hr => w__law_rooms_within hr b_range b_len b_sum) (fun _ => rfl) (fun a h M _ => d_law_rooms_within a h M)
theorem k__law_within (X : K.In h) (G : h.Ns mainGlobals mg) (D : DefAt K "_law_within" s__law_within)  (b_range : mg "range" = none) : Cl P w K mg base 2 "_law_within" (spP C_law_within) := by
  obtain ⟨f, od, an, sl, oc, kV, dc, pm, cd, ct, a, l, c, k⟩ := D
  have F : Fun K "_law_within" "_law_within" s__law_within f _ := fun_mk l c k
  exact cl_P F sc__law_within (F.binds (ps := p__law_within) fun _ _ _ _ _ _ us hl => match us, hl with | [_, _, _], _ => rfl) (PySem.W.mg_of X G a) (fun cdv A outer s H E hr => w__law_within hr b_range) (fun _ => rfl) (fun a h M _ => d_law_within a h M)
theorem k__law_sizes (X : K.In h) (G : h.Ns mainGlobals mg) (D : DefAt K "_law_sizes" s__law_sizes) (c__law_within : Cl P w K mg base 2 "_law_within" (spP C_law_within)) (b_range : mg "range" = none) (b_len : mg "len" = none) (b_tuple : mg "tuple" = none) : Cl P w K mg base 3 "_law_sizes" (spP C_law_sizes) := by
  obtain ⟨f, od, an, sl, oc, kV, dc, pm, cd, ct, a, l, c, k⟩ := D
  have F : Fun K "_law_sizes" "_law_sizes" s__law_sizes f _ := fun_mk l c k
  exact cl_P F sc__law_sizes (F.binds (ps := p__law_sizes) fun _ _ _ _ _ _ us hl => match us, hl with | [_, _], _ => rfl) (PySem.W.mg_of X G a) (fun cdv A outer s H E hr => w__law_sizes hr c__law_within b_range b_len b_tuple) (fun _ => rfl) (fun a h M _ => d_law_sizes a h M)
theorem k__law_state (X : K.In h) (G : h.Ns mainGlobals mg) (D : DefAt K "_law_state" s__law_state) (c__law_mixed : Cl P w K mg base 3 "_law_mixed" (spB T C_law_mixed)) (c__law_one : Cl P w K mg base 3 "_law_one" (spB T C_law_one)) (c__law_take : Cl P w K mg base 2 "_law_take" (spB T C_law_take)) (b_tuple : mg "tuple" = none) (b_list : mg "list" = none) (b_range : mg "range" = none) (b_len : mg "len" = none) (b_enumerate : mg "enumerate" = none) : Cl P w K mg base 4 "_law_state" (spB T C_law_state) := by
  obtain ⟨f, od, an, sl, oc, kV, dc, pm, cd, ct, a, l, c, k⟩ := D
  have F : Fun K "_law_state" "_law_state" s__law_state f _ := fun_mk l c k
  exact cl_B F sc__law_state (F.binds (ps := p__law_state) fun _ _ _ _ _ _ us hl => match us, hl with | [_, _], _ => rfl) (PySem.W.mg_of X G a) (fun cdv A outer s H E hr => w__law_state hr c__law_mixed c__law_one c__law_take b_tuple b_list b_range b_len b_enumerate) (fun _ => rfl) (fun a h M hM => d_law_state a h M hM)
theorem k__law_full_state (X : K.In h) (G : h.Ns mainGlobals mg) (D : DefAt K "_law_full_state" s__law_full_state) (c__law_mixed : Cl P w K mg base 3 "_law_mixed" (spB T C_law_mixed)) (c__law_flat : Cl P w K mg base 2 "_law_flat" (spP C_law_flat)) (b_len : mg "len" = none) (b_tuple : mg "tuple" = none) (b_enumerate : mg "enumerate" = none) : Cl P w K mg base 4 "_law_full_state" (spB T C_law_full_state) := by
  obtain ⟨f, od, an, sl, oc, kV, dc, pm, cd, ct, a, l, c, k⟩ := D
  have F : Fun K "_law_full_state" "_law_full_state" s__law_full_state f _ := fun_mk l c k
  exact cl_B F sc__law_full_state (F.binds (ps := p__law_full_state) fun _ _ _ _ _ _ us hl => match us, hl with | [_, _], _ => rfl) (PySem.W.mg_of X G a) (fun cdv A outer s H E hr => w__law_full_state hr c__law_mixed c__law_flat b_len b_tuple b_enumerate) (fun _ => rfl) (fun a h M hM => d_law_full_state a h M hM)
theorem k__law_start (X : K.In h) (G : h.Ns mainGlobals mg) (D : DefAt K "_law_start" s__law_start) (c__law_one : Cl P w K mg base 3 "_law_one" (spB T C_law_one)) (c__law_state : Cl P w K mg base 4 "_law_state" (spB T C_law_state)) (b_sum : mg "sum" = none) (b_int : mg "int" = none) (b_len : mg "len" = none) : Cl P w K mg base 5 "_law_start" (spB T C_law_start) := by
  obtain ⟨f, od, an, sl, oc, kV, dc, pm, cd, ct, a, l, c, k⟩ := D
  have F : Fun K "_law_start" "_law_start" s__law_start f _ := fun_mk l c k
  exact cl_B F sc__law_start (F.binds (ps := p__law_start) fun _ _ _ _ _ _ us hl => match us, hl with | [_, _], _ => rfl) (PySem.W.mg_of X G a) (fun cdv A outer s H E hr => w__law_start hr c__law_one c__law_state b_sum b_int b_len) (fun _ => rfl) (fun a h M hM => d_law_start a h M hM)
theorem k__law_done (X : K.In h) (G : h.Ns mainGlobals mg) (D : DefAt K "_law_done" s__law_done)  (b_tuple : mg "tuple" = none) (b_len : mg "len" = none) (b_enumerate : mg "enumerate" = none) (b_list : mg "list" = none) : Cl P w K mg base 2 "_law_done" (spP C_law_done) := by
  obtain ⟨f, od, an, sl, oc, kV, dc, pm, cd, ct, a, l, c, k⟩ := D
  have F : Fun K "_law_done" "_law_done" s__law_done f _ := fun_mk l c k
  exact cl_P F sc__law_done (F.binds (ps := p__law_done) fun _ _ _ _ _ _ us hl => match us, hl with | [_, _, _], _ => rfl) (PySem.W.mg_of X G a) (fun cdv A outer s H E hr => w__law_done hr b_tuple b_len b_enumerate b_list) (fun _ => rfl) (fun a h M _ => d_law_done a h M)
theorem k__law_drawn_move (X : K.In h) (G : h.Ns mainGlobals mg) (D : DefAt K "_law_drawn_move" s__law_drawn_move) (c__law_one : Cl P w K mg base 3 "_law_one" (spB T C_law_one)) (b_len : mg "len" = none) (b_range : mg "range" = none) (b_list : mg "list" = none) : Cl P w K mg base 4 "_law_drawn_move" (spB T C_law_drawn_move) := by
  obtain ⟨f, od, an, sl, oc, kV, dc, pm, cd, ct, a, l, c, k⟩ := D
  have F : Fun K "_law_drawn_move" "_law_drawn_move" s__law_drawn_move f _ := fun_mk l c k
  exact cl_B F sc__law_drawn_move (F.binds (ps := p__law_drawn_move) fun _ _ _ _ _ _ us hl => match us, hl with | [_, _, _, _, _], _ => rfl) (PySem.W.mg_of X G a) (fun cdv A outer s H E hr => w__law_drawn_move hr c__law_one b_len b_range b_list) (fun _ => rfl) (fun a h M hM => d_law_drawn_move a h M hM)
theorem k__law_run (X : K.In h) (G : h.Ns mainGlobals mg) (D : DefAt K "_law_run" s__law_run) (c__law_done : Cl P w K mg base 2 "_law_done" (spP C_law_done)) (c__law_take : Cl P w K mg base 2 "_law_take" (spB T C_law_take)) (c__law_drawn_move : Cl P w K mg base 4 "_law_drawn_move" (spB T C_law_drawn_move)) (c__law_one : Cl P w K mg base 3 "_law_one" (spB T C_law_one)) (c__law_mixed : Cl P w K mg base 3 "_law_mixed" (spB T C_law_mixed)) (b_tuple : mg "tuple" = none) (b_range : mg "range" = none) (b_list : mg "list" = none) (b_max : mg "max" = none) : Cl P w K mg base 5 "_law_run" (spB T C_law_run) := by
  obtain ⟨f, od, an, sl, oc, kV, dc, pm, cd, ct, a, l, c, k⟩ := D
  have F : Fun K "_law_run" "_law_run" s__law_run f _ := fun_mk l c k
  exact cl_B F sc__law_run (F.binds (ps := p__law_run) fun _ _ _ _ _ _ us hl => match us, hl with | [_, _, _, _, _], _ => rfl) (PySem.W.mg_of X G a) (fun cdv A outer s H E hr => w__law_run hr c__law_done c__law_take c__law_drawn_move c__law_one c__law_mixed b_tuple b_range b_list b_max) (fun _ => rfl) (fun a h M hM => d_law_run a h M hM)
theorem k__law_story (X : K.In h) (G : h.Ns mainGlobals mg) (D : DefAt K "_law_story" s__law_story) (c__law_full_state : Cl P w K mg base 4 "_law_full_state" (spB T C_law_full_state)) (c__law_run : Cl P w K mg base 5 "_law_run" (spB T C_law_run))  : Cl P w K mg base 6 "_law_story" (spB T C_law_story) := by
  obtain ⟨f, od, an, sl, oc, kV, dc, pm, cd, ct, a, l, c, k⟩ := D
  have F : Fun K "_law_story" "_law_story" s__law_story f _ := fun_mk l c k
  exact cl_B F sc__law_story (F.binds (ps := p__law_story) fun _ _ _ _ _ _ us hl => match us, hl with | [_, _, _, _, _], _ => rfl) (PySem.W.mg_of X G a) (fun cdv A outer s H E hr => w__law_story hr c__law_full_state c__law_run) (fun _ => rfl) (fun a h M hM => d_law_story a h M hM)
theorem k__law_all_states (X : K.In h) (G : h.Ns mainGlobals mg) (D : DefAt K "_law_all_states" s__law_all_states)  (b_range : mg "range" = none) (b_enumerate : mg "enumerate" = none) (b_len : mg "len" = none) : Cl P w K mg base 2 "_law_all_states" (spP C_law_all_states) := by
  obtain ⟨f, od, an, sl, oc, kV, dc, pm, cd, ct, a, l, c, k⟩ := D
  have F : Fun K "_law_all_states" "_law_all_states" s__law_all_states f _ := fun_mk l c k
  exact cl_P F sc__law_all_states (F.binds (ps := p__law_all_states) fun _ _ _ _ _ _ us hl => match us, hl with | [_], _ => rfl) (PySem.W.mg_of X G a) (fun cdv A outer s H E hr => w__law_all_states hr b_range b_enumerate b_len) (fun _ => rfl) (fun a h M _ => d_law_all_states a h M)
theorem k__law_first_known {cA : Addr} (X : K.In h) (G : h.Ns mainGlobals mg) (D : DefAtC K "_law_first_known" s__law_first_known cA) (TB : LamX.TabB base mg cA T.1) (hq : ("_law_first_known.<locals>." : Str) ++ "<lambda>" = T.2) (c__law_sizes : Cl P w K mg base 3 "_law_sizes" (spP C_law_sizes)) (c__law_rooms_within : Cl P w K mg base 2 "_law_rooms_within" (spP C_law_rooms_within)) (b_tuple : mg "tuple" = none) (b_range : mg "range" = none) (b_min : mg "min" = none) (b_sorted : mg "sorted" = none) (b_max : mg "max" = none) : Cl P w K mg base 4 "_law_first_known" (spT T C_law_first_known) := by
  obtain ⟨f, od, an, sl, oc, kV, dc, pm, ct, a, l, c, k⟩ := D
  have F : Fun K "_law_first_known" "_law_first_known" s__law_first_known f _ := fun_mk l c k
  refine ⟨f, _, p__law_first_known, fn_of l c sc__law_first_known (fun vs H Q E h => (cl_G (C := C_law_first_known) (N := n__law_first_known) (ps := p__law_first_known) (t := t__law_first_known K T _ _) (fun _ => rfl) (fun a h M hM => d_law_first_known a h M hM) vs H Q h).1) fun A outer s H vs Q E hr h => ⟨_, (w__law_first_known TB hq hr c__law_sizes c__law_rooms_within b_tuple b_range b_min b_sorted b_max).nox, (cl_G (C := C_law_first_known) (N := n__law_first_known) (ps := p__law_first_known) (fun _ => rfl) (fun a h M hM => d_law_first_known a h M hM) vs H Q h).2⟩, PySem.W.mg_of X G a, F.kp, F.binds (ps := p__law_first_known) fun _ _ _ _ _ _ us hl => match us, hl with | [_, _], _ => rfl⟩
theorem k__law_tightened (X : K.In h) (G : h.Ns mainGlobals mg) (D : DefAt K "_law_tightened" s__law_tightened)  (b_tuple : mg "tuple" = none) (b_zip : mg "zip" = none) (b_enumerate : mg "enumerate" = none) (b_min : mg "min" = none) (b_range : mg "range" = none) (b_max : mg "max" = none) (b_len : mg "len" = none) : Cl P w K mg base 2 "_law_tightened" (spP C_law_tightened) := by
  obtain ⟨f, od, an, sl, oc, kV, dc, pm, cd, ct, a, l, c, k⟩ := D
  have F : Fun K "_law_tightened" "_law_tightened" s__law_tightened f _ := fun_mk l c k
  exact cl_P F sc__law_tightened (F.binds (ps := p__law_tightened) fun _ _ _ _ _ _ us hl => match us, hl with | [_, _], _ => rfl) (PySem.W.mg_of X G a) (fun cdv A outer s H E hr => w__law_tightened hr b_tuple b_zip b_enumerate b_min b_range b_max b_len) (fun _ => rfl) (fun a h M _ => d_law_tightened a h M)
theorem k__law_known_sizes (X : K.In h) (G : h.Ns mainGlobals mg) (D : DefAt K "_law_known_sizes" s__law_known_sizes)  (b_tuple : mg "tuple" = none) : Cl P w K mg base 2 "_law_known_sizes" (spP C_known_sizes) := by
  obtain ⟨f, od, an, sl, oc, kV, dc, pm, cd, ct, a, l, c, k⟩ := D
  have F : Fun K "_law_known_sizes" "_law_known_sizes" s__law_known_sizes f _ := fun_mk l c k
  exact cl_P F sc__law_known_sizes (F.binds (ps := p__law_known_sizes) fun _ _ _ _ _ _ us hl => match us, hl with | [_], _ => rfl) (PySem.W.mg_of X G a) (fun cdv A outer s H E hr => w__law_known_sizes hr b_tuple) (fun _ => rfl) (fun a h M _ => d_law_known_sizes a h M)
theorem k__law_led (X : K.In h) (G : h.Ns mainGlobals mg) (D : DefAt K "_law_led" s__law_led) (c__law_tightened : Cl P w K mg base 2 "_law_tightened" (spP C_law_tightened)) (c__law_known_sizes : Cl P w K mg base 2 "_law_known_sizes" (spP C_known_sizes)) (b_tuple : mg "tuple" = none) (b_enumerate : mg "enumerate" = none) (b_int : mg "int" = none) (b_max : mg "max" = none) (b_sum : mg "sum" = none) (b_list : mg "list" = none) : Cl P w K mg base 3 "_law_led" (spP C_law_led) := by
  obtain ⟨f, od, an, sl, oc, kV, dc, pm, cd, ct, a, l, c, k⟩ := D
  have F : Fun K "_law_led" "_law_led" s__law_led f _ := fun_mk l c k
  exact cl_P F sc__law_led (F.binds (ps := p__law_led) fun _ _ _ _ _ _ us hl => match us, hl with | [_, _, _], _ => rfl) (PySem.W.mg_of X G a) (fun cdv A outer s H E hr => w__law_led hr c__law_tightened c__law_known_sizes b_tuple b_enumerate b_int b_max b_sum b_list) (fun _ => rfl) (fun a h M _ => d_law_led a h M)
theorem k__law_led_by (X : K.In h) (G : h.Ns mainGlobals mg) (D : DefAt K "_law_led_by" s__law_led_by) (c__law_led : Cl P w K mg base 3 "_law_led" (spP C_law_led)) (b_enumerate : mg "enumerate" = none) : Cl P w K mg base 4 "_law_led_by" (spP C_law_led_by) := by
  obtain ⟨f, od, an, sl, oc, kV, dc, pm, cd, ct, a, l, c, k⟩ := D
  have F : Fun K "_law_led_by" "_law_led_by" s__law_led_by f _ := fun_mk l c k
  exact cl_P F sc__law_led_by (F.binds (ps := p__law_led_by) fun _ _ _ _ _ _ us hl => match us, hl with | [_, _, _], _ => rfl) (PySem.W.mg_of X G a) (fun cdv A outer s H E hr => w__law_led_by hr c__law_led b_enumerate) (fun _ => rfl) (fun a h M _ => d_law_led_by a h M)
theorem k__law_fits (X : K.In h) (G : h.Ns mainGlobals mg) (D : DefAt K "_law_fits" s__law_fits) (c__law_sizes : Cl P w K mg base 3 "_law_sizes" (spP C_law_sizes)) (c__law_known_sizes : Cl P w K mg base 2 "_law_known_sizes" (spP C_known_sizes)) (b_enumerate : mg "enumerate" = none) (b_int : mg "int" = none) : Cl P w K mg base 4 "_law_fits" (spP C_law_fits) := by
  obtain ⟨f, od, an, sl, oc, kV, dc, pm, cd, ct, a, l, c, k⟩ := D
  have F : Fun K "_law_fits" "_law_fits" s__law_fits f _ := fun_mk l c k
  exact cl_P F sc__law_fits (F.binds (ps := p__law_fits) fun _ _ _ _ _ _ us hl => match us, hl with | [_, _, _], _ => rfl) (PySem.W.mg_of X G a) (fun cdv A outer s H E hr => w__law_fits hr c__law_sizes c__law_known_sizes b_enumerate b_int) (fun _ => rfl) (fun a h M _ => d_law_fits a h M)
theorem k__law_tight_known (X : K.In h) (G : h.Ns mainGlobals mg) (D : DefAt K "_law_tight_known" s__law_tight_known) (c__law_tightened : Cl P w K mg base 2 "_law_tightened" (spP C_law_tightened)) (c__law_take : Cl P w K mg base 2 "_law_take" (spB T C_law_take)) (c__law_one : Cl P w K mg base 3 "_law_one" (spB T C_law_one)) (c__law_mixed : Cl P w K mg base 3 "_law_mixed" (spB T C_law_mixed)) (b_tuple : mg "tuple" = none) (b_len : mg "len" = none) (b_range : mg "range" = none) (b_min : mg "min" = none) (b_list : mg "list" = none) : Cl P w K mg base 4 "_law_tight_known" (spB T C_know) := by
  obtain ⟨f, od, an, sl, oc, kV, dc, pm, cd, ct, a, l, c, k⟩ := D
  have F : Fun K "_law_tight_known" "_law_tight_known" s__law_tight_known f _ := fun_mk l c k
  exact cl_B F sc__law_tight_known (F.binds (ps := p__law_tight_known) fun _ _ _ _ _ _ us hl => match us, hl with | [_, _], _ => rfl) (PySem.W.mg_of X G a) (fun cdv A outer s H E hr => w__law_tight_known hr c__law_tightened c__law_take c__law_one c__law_mixed b_tuple b_len b_range b_min b_list) (fun _ => rfl) (fun a h M hM => d_law_tight_known a h M hM)
theorem k__law_known (X : K.In h) (G : h.Ns mainGlobals mg) (D : DefAt K "_law_known" s__law_known) (c__law_first_known : Cl P w K mg base 4 "_law_first_known" (spT T C_law_first_known)) (c__law_led_by : Cl P w K mg base 4 "_law_led_by" (spP C_law_led_by)) (c__law_take : Cl P w K mg base 2 "_law_take" (spB T C_law_take)) (c__law_one : Cl P w K mg base 3 "_law_one" (spB T C_law_one)) (c__law_story : Cl P w K mg base 6 "_law_story" (spB T C_law_story)) (c__law_start : Cl P w K mg base 5 "_law_start" (spB T C_law_start))  : Cl P w K mg base 7 "_law_known" (spB T C_law_known) := by
  obtain ⟨f, od, an, sl, oc, kV, dc, pm, cd, ct, a, l, c, k⟩ := D
  have F : Fun K "_law_known" "_law_known" s__law_known f _ := fun_mk l c k
  exact cl_B F sc__law_known (F.binds (ps := p__law_known) fun _ _ _ _ _ _ us hl => match us, hl with | [_, _, _, _], _ => rfl) (PySem.W.mg_of X G a) (fun cdv A outer s H E hr => w__law_known hr c__law_first_known c__law_led_by c__law_take c__law_one c__law_story c__law_start) (fun _ => rfl) (fun a h M hM => d_law_known a h M hM)
theorem k__law_cuts (X : K.In h) (G : h.Ns mainGlobals mg) (D : DefAt K "_law_cuts" s__law_cuts)  (b_range : mg "range" = none) (b_len : mg "len" = none) : Cl P w K mg base 2 "_law_cuts" (spP C_cuts_of) := by
  obtain ⟨f, od, an, sl, oc, kV, dc, pm, cd, ct, a, l, c, k⟩ := D
  have F : Fun K "_law_cuts" "_law_cuts" s__law_cuts f _ := fun_mk l c k
  exact cl_P F sc__law_cuts (F.binds (ps := p__law_cuts) fun _ _ _ _ _ _ us hl => match us, hl with | [_], _ => rfl) (PySem.W.mg_of X G a) (fun cdv A outer s H E hr => w__law_cuts hr b_range b_len) (fun _ => rfl) (fun a h M _ => d_law_cuts a h M)
theorem k__law_blocks (X : K.In h) (G : h.Ns mainGlobals mg) (D : DefAt K "_law_blocks" s__law_blocks) (c__law_cuts : Cl P w K mg base 2 "_law_cuts" (spP C_cuts_of)) (b_tuple : mg "tuple" = none) (b_sorted : mg "sorted" = none) : Cl P w K mg base 3 "_law_blocks" (spP C_blocks) := by
  obtain ⟨f, od, an, sl, oc, kV, dc, pm, cd, ct, a, l, c, k⟩ := D
  have F : Fun K "_law_blocks" "_law_blocks" s__law_blocks f _ := fun_mk l c k
  exact cl_P F sc__law_blocks (F.binds (ps := p__law_blocks) fun _ _ _ _ _ _ us hl => match us, hl with | [_], _ => rfl) (PySem.W.mg_of X G a) (fun cdv A outer s H E hr => w__law_blocks hr c__law_cuts b_tuple b_sorted) (fun _ => rfl) (fun a h M _ => d_law_blocks a h M)
theorem k__law_parts (X : K.In h) (G : h.Ns mainGlobals mg) (D : DefAt K "_law_parts" s__law_parts) (c__law_cuts : Cl P w K mg base 2 "_law_cuts" (spP C_cuts_of)) (c__law_flat : Cl P w K mg base 2 "_law_flat" (spP C_law_flat)) (b_sorted : mg "sorted" = none) (b_set : mg "set" = none) (b_len : mg "len" = none) (b_list : mg "list" = none) : Cl P w K mg base 3 "_law_parts" (spP C_law_parts) := by
  obtain ⟨f, od, an, sl, oc, kV, dc, pm, cd, ct, a, l, c, k⟩ := D
  have F : Fun K "_law_parts" "_law_parts" s__law_parts f _ := fun_mk l c k
  exact cl_P F sc__law_parts (F.binds (ps := p__law_parts) fun _ _ _ _ _ _ us hl => match us, hl with | [_], _ => rfl) (PySem.W.mg_of X G a) (fun cdv A outer s H E hr => w__law_parts hr c__law_cuts c__law_flat b_sorted b_set b_len b_list) (fun _ => rfl) (fun a h M _ => d_law_parts a h M)
theorem k__law_stirred (X : K.In h) (G : h.Ns mainGlobals mg) (D : DefAt K "_law_stirred" s__law_stirred) (c__law_parts : Cl P w K mg base 3 "_law_parts" (spP C_law_parts)) (c__law_mixed : Cl P w K mg base 3 "_law_mixed" (spB T C_law_mixed)) (c__law_flat : Cl P w K mg base 2 "_law_flat" (spP C_law_flat)) (b_tuple : mg "tuple" = none) : Cl P w K mg base 4 "_law_stirred" (spB T C_of_known) := by
  obtain ⟨f, od, an, sl, oc, kV, dc, pm, cd, ct, a, l, c, k⟩ := D
  have F : Fun K "_law_stirred" "_law_stirred" s__law_stirred f _ := fun_mk l c k
  exact cl_B F sc__law_stirred (F.binds (ps := p__law_stirred) fun _ _ _ _ _ _ us hl => match us, hl with | [_, _], _ => rfl) (PySem.W.mg_of X G a) (fun cdv A outer s H E hr => w__law_stirred hr c__law_parts c__law_mixed c__law_flat b_tuple) (fun _ => rfl) (fun a h M hM => d_law_stirred a h M hM)
theorem k__law_sharper (X : K.In h) (G : h.Ns mainGlobals mg) (D : DefAt K "_law_sharper" s__law_sharper) (c__law_known_sizes : Cl P w K mg base 2 "_law_known_sizes" (spP C_known_sizes)) (c__law_tightened : Cl P w K mg base 2 "_law_tightened" (spP C_law_tightened)) (c__law_one : Cl P w K mg base 3 "_law_one" (spOne T)) (c__law_take : Cl P w K mg base 2 "_law_take" (spB T C_law_take)) (b_tuple : mg "tuple" = none) (b_range : mg "range" = none) (b_len : mg "len" = none) (b_list : mg "list" = none) : Cl P w K mg base 4 "_law_sharper" (spB T C_of_known) := by
  obtain ⟨f, od, an, sl, oc, kV, dc, pm, cd, ct, a, l, c, k⟩ := D
  have F : Fun K "_law_sharper" "_law_sharper" s__law_sharper f _ := fun_mk l c k
  exact cl_B F sc__law_sharper (F.binds (ps := p__law_sharper) fun _ _ _ _ _ _ us hl => match us, hl with | [_, _], _ => rfl) (PySem.W.mg_of X G a) (fun cdv A outer s H E hr => w__law_sharper hr c__law_known_sizes c__law_tightened c__law_one c__law_take b_tuple b_range b_len b_list) (fun _ => rfl) (fun a h M hM => d_law_sharper a h M hM)
theorem k__law_of_sizes (X : K.In h) (G : h.Ns mainGlobals mg) (D : DefAt K "_law_of_sizes" s__law_of_sizes) (c__law_tightened : Cl P w K mg base 2 "_law_tightened" (spP C_law_tightened)) (c__law_take : Cl P w K mg base 2 "_law_take" (spB T C_law_take)) (c__law_mixed : Cl P w K mg base 3 "_law_mixed" (spB T C_law_mixed)) (b_len : mg "len" = none) (b_tuple : mg "tuple" = none) (b_range : mg "range" = none) (b_min : mg "min" = none) (b_int : mg "int" = none) (b_list : mg "list" = none) : Cl P w K mg base 4 "_law_of_sizes" (spB T C_law_of_sizes) := by
  obtain ⟨f, od, an, sl, oc, kV, dc, pm, cd, ct, a, l, c, k⟩ := D
  have F : Fun K "_law_of_sizes" "_law_of_sizes" s__law_of_sizes f _ := fun_mk l c k
  exact cl_B F sc__law_of_sizes (F.binds (ps := p__law_of_sizes) fun _ _ _ _ _ _ us hl => match us, hl with | [_, _, _], _ => rfl) (PySem.W.mg_of X G a) (fun cdv A outer s H E hr => w__law_of_sizes hr c__law_tightened c__law_take c__law_mixed b_len b_tuple b_range b_min b_int b_list) (fun _ => rfl) (fun a h M hM => d_law_of_sizes a h M hM)
theorem k__law_swapped (X : K.In h) (G : h.Ns mainGlobals mg) (D : DefAt K "_law_swapped" s__law_swapped) (c__law_take : Cl P w K mg base 2 "_law_take" (spB T C_law_take)) (b_tuple : mg "tuple" = none) (b_len : mg "len" = none) (b_list : mg "list" = none) : Cl P w K mg base 3 "_law_swapped" (spB T C_of_known) := by
  obtain ⟨f, od, an, sl, oc, kV, dc, pm, cd, ct, a, l, c, k⟩ := D
  have F : Fun K "_law_swapped" "_law_swapped" s__law_swapped f _ := fun_mk l c k
  exact cl_B F sc__law_swapped (F.binds (ps := p__law_swapped) fun _ _ _ _ _ _ us hl => match us, hl with | [_, _], _ => rfl) (PySem.W.mg_of X G a) (fun cdv A outer s H E hr => w__law_swapped hr c__law_take b_tuple b_len b_list) (fun _ => rfl) (fun a h M hM => d_law_swapped a h M hM)
theorem k__law_some_known (X : K.In h) (G : h.Ns mainGlobals mg) (D : DefAt K "_law_some_known" s__law_some_known) (c__law_take : Cl P w K mg base 2 "_law_take" (spB T C_law_take)) (c__law_tight_known : Cl P w K mg base 4 "_law_tight_known" (spB T C_know)) (c__law_known : Cl P w K mg base 7 "_law_known" (spB T C_law_known))  : Cl P w K mg base 8 "_law_some_known" (spB T C_know) := by
  obtain ⟨f, od, an, sl, oc, kV, dc, pm, cd, ct, a, l, c, k⟩ := D
  have F : Fun K "_law_some_known" "_law_some_known" s__law_some_known f _ := fun_mk l c k
  exact cl_B F sc__law_some_known (F.binds (ps := p__law_some_known) fun _ _ _ _ _ _ us hl => match us, hl with | [_, _], _ => rfl) (PySem.W.mg_of X G a) (fun cdv A outer s H E hr => w__law_some_known hr c__law_take c__law_tight_known c__law_known) (fun _ => rfl) (fun a h M hM => d_law_some_known a h M hM)
theorem k__law_two_knowns (X : K.In h) (G : h.Ns mainGlobals mg) (D : DefAt K "_law_two_knowns" s__law_two_knowns) (c__law_take : Cl P w K mg base 2 "_law_take" (spB T C_law_take)) (c__law_sharper : Cl P w K mg base 4 "_law_sharper" (spB T C_of_known)) (c__law_known_sizes : Cl P w K mg base 2 "_law_known_sizes" (spP C_known_sizes)) (c__law_of_sizes : Cl P w K mg base 4 "_law_of_sizes" (spB T C_law_of_sizes)) (c__law_swapped : Cl P w K mg base 3 "_law_swapped" (spB T C_of_known)) (c__law_stirred : Cl P w K mg base 4 "_law_stirred" (spB T C_of_known)) (c__law_one : Cl P w K mg base 3 "_law_one" (spB T C_law_one)) (c__law_some_known : Cl P w K mg base 8 "_law_some_known" (spB T C_know))  : Cl P w K mg base 9 "_law_two_knowns" (spB T C_two) := by
  obtain ⟨f, od, an, sl, oc, kV, dc, pm, cd, ct, a, l, c, k⟩ := D
  have F : Fun K "_law_two_knowns" "_law_two_knowns" s__law_two_knowns f _ := fun_mk l c k
  exact cl_B F sc__law_two_knowns (F.binds (ps := p__law_two_knowns) fun _ _ _ _ _ _ us hl => match us, hl with | [_, _], _ => rfl) (PySem.W.mg_of X G a) (fun cdv A outer s H E hr => w__law_two_knowns hr c__law_take c__law_sharper c__law_known_sizes c__law_of_sizes c__law_swapped c__law_stirred c__law_one c__law_some_known) (fun _ => rfl) (fun a h M hM => d_law_two_knowns a h M hM)
theorem k__law_states_that_fit (X : K.In h) (G : h.Ns mainGlobals mg) (D : DefAt K "_law_states_that_fit" s__law_states_that_fit) (c__law_all_states : Cl P w K mg base 2 "_law_all_states" (spP C_law_all_states)) (c__law_fits : Cl P w K mg base 4 "_law_fits" (spP C_law_fits))  : Cl P w K mg base 5 "_law_states_that_fit" (spP C_law_states_that_fit) := by
  obtain ⟨f, od, an, sl, oc, kV, dc, pm, cd, ct, a, l, c, k⟩ := D
  have F : Fun K "_law_states_that_fit" "_law_states_that_fit" s__law_states_that_fit f _ := fun_mk l c k
  exact cl_P F sc__law_states_that_fit (F.binds (ps := p__law_states_that_fit) fun _ _ _ _ _ _ us hl => match us, hl with | [_, _], _ => rfl) (PySem.W.mg_of X G a) (fun cdv A outer s H E hr => w__law_states_that_fit hr c__law_all_states c__law_fits) (fun _ => rfl) (fun a h M _ => d_law_states_that_fit a h M)
theorem k__law_least_of (X : K.In h) (G : h.Ns mainGlobals mg) (D : DefAt K "_law_least_of" s__law_least_of)  (b_enumerate : mg "enumerate" = none) (b_max : mg "max" = none) (b_int : mg "int" = none) : Cl P w K mg base 2 "_law_least_of" (spP C_law_least_of) := by
  obtain ⟨f, od, an, sl, oc, kV, dc, pm, cd, ct, a, l, c, k⟩ := D
  have F : Fun K "_law_least_of" "_law_least_of" s__law_least_of f _ := fun_mk l c k
  exact cl_P F sc__law_least_of (F.binds (ps := p__law_least_of) fun _ _ _ _ _ _ us hl => match us, hl with | [_, _, _], _ => rfl) (PySem.W.mg_of X G a) (fun cdv A outer s H E hr => w__law_least_of hr b_enumerate b_max b_int) (fun _ => rfl) (fun a h M _ => d_law_least_of a h M)
theorem k__law_lies (X : K.In h) (G : h.Ns mainGlobals mg) (D : DefAt K "_law_lies" s__law_lies) (c__law_cuts : Cl P w K mg base 2 "_law_cuts" (spP C_cuts_of)) (c__law_least_of : Cl P w K mg base 2 "_law_least_of" (spP C_law_least_of)) (c__law_known_sizes : Cl P w K mg base 2 "_law_known_sizes" (spP C_known_sizes)) (b_enumerate : mg "enumerate" = none) : Cl P w K mg base 3 "_law_lies" (spP C_law_lies) := by
  obtain ⟨f, od, an, sl, oc, kV, dc, pm, cd, ct, a, l, c, k⟩ := D
  have F : Fun K "_law_lies" "_law_lies" s__law_lies f _ := fun_mk l c k
  exact cl_P F sc__law_lies (F.binds (ps := p__law_lies) fun _ _ _ _ _ _ us hl => match us, hl with | [_, _], _ => rfl) (PySem.W.mg_of X G a) (fun cdv A outer s H E hr => w__law_lies hr c__law_cuts c__law_least_of c__law_known_sizes b_enumerate) (fun _ => rfl) (fun a h M _ => d_law_lies a h M)
theorem k__law_some_house (X : K.In h) (G : h.Ns mainGlobals mg) (D : DefAt K "_law_some_house" s__law_some_house) (c__law_take : Cl P w K mg base 2 "_law_take" (spB T C_law_take)) (c__law_house : Cl P w K mg base 4 "_law_house" (spB T C_law_house)) (c__law_one : Cl P w K mg base 3 "_law_one" (spB T C_law_one))  : Cl P w K mg base 5 "_law_some_house" (spB T C_law_some_house) := by
  obtain ⟨f, od, an, sl, oc, kV, dc, pm, cd, ct, a, l, c, k⟩ := D
  have F : Fun K "_law_some_house" "_law_some_house" s__law_some_house f _ := fun_mk l c k
  exact cl_B F sc__law_some_house (F.binds (ps := p__law_some_house) fun _ _ _ _ _ _ us hl => match us, hl with | [_, _], _ => rfl) (PySem.W.mg_of X G a) (fun cdv A outer s H E hr => w__law_some_house hr c__law_take c__law_house c__law_one) (fun _ => rfl) (fun a h M hM => d_law_some_house a h M hM)
theorem k__law_is_small (X : K.In h) (G : h.Ns mainGlobals mg) (D : DefAt K "_law_is_small" s__law_is_small)  (b_sum : mg "sum" = none) (b_len : mg "len" = none) : Cl P w K mg base 2 "_law_is_small" (spP C_law_is_small) := by
  obtain ⟨f, od, an, sl, oc, kV, dc, pm, cd, ct, a, l, c, k⟩ := D
  have F : Fun K "_law_is_small" "_law_is_small" s__law_is_small f _ := fun_mk l c k
  exact cl_P F sc__law_is_small (F.binds (ps := p__law_is_small) fun _ _ _ _ _ _ us hl => match us, hl with | [_], _ => rfl) (PySem.W.mg_of X G a) (fun cdv A outer s H E hr => w__law_is_small hr b_sum b_len) (fun _ => rfl) (fun a h M _ => d_law_is_small a h M)
theorem k__law_two_plain (X : K.In h) (G : h.Ns mainGlobals mg) (D : DefAt K "_law_two_plain" s__law_two_plain) (c__law_tightened : Cl P w K mg base 2 "_law_tightened" (spP C_law_tightened)) (c__law_known_sizes : Cl P w K mg base 2 "_law_known_sizes" (spP C_known_sizes)) (c__law_take : Cl P w K mg base 2 "_law_take" (spB T C_law_take)) (c__law_mixed : Cl P w K mg base 3 "_law_mixed" (spB T C_law_mixed)) (c__law_sizes : Cl P w K mg base 3 "_law_sizes" (spP C_law_sizes)) (c__law_state : Cl P w K mg base 4 "_law_state" (spB T C_law_state)) (b_range : mg "range" = none) (b_tuple : mg "tuple" = none) (b_len : mg "len" = none) (b_list : mg "list" = none) : Cl P w K mg base 5 "_law_two_plain" (spB T C_two) := by
  obtain ⟨f, od, an, sl, oc, kV, dc, pm, cd, ct, a, l, c, k⟩ := D
  have F : Fun K "_law_two_plain" "_law_two_plain" s__law_two_plain f _ := fun_mk l c k
  exact cl_B F sc__law_two_plain (F.binds (ps := p__law_two_plain) fun _ _ _ _ _ _ us hl => match us, hl with | [_, _], _ => rfl) (PySem.W.mg_of X G a) (fun cdv A outer s H E hr => w__law_two_plain hr c__law_tightened c__law_known_sizes c__law_take c__law_mixed c__law_sizes c__law_state b_range b_tuple b_len b_list) (fun _ => rfl) (fun a h M hM => d_law_two_plain a h M hM)
theorem all_mk {fa cA pA : Addr} (X : K.In h) (G : h.Ns mainGlobals mg) (hfa : mg "law" = some (.ref fa))
    (D_things_within : DefAt K "things_within" s_things_within)
    (D_sizes_of : DefAt K "sizes_of" s_sizes_of)
    (D_known_sizes : DefAt K "known_sizes" s_known_sizes)
    (D_fits : DefAt K "fits" s_fits)
    (D_may_be_beyond : DefAt K "may_be_beyond" s_may_be_beyond)
    (D_left_within : DefAt K "left_within" s_left_within)
    (D_state_around : DefAt K "state_around" s_state_around)
    (D_extreme_within : DefAt K "extreme_within" s_extreme_within)
    (D_least_within : DefAt K "least_within" s_least_within)
    (D_cuts_of : DefAt K "cuts_of" s_cuts_of)
    (D_blocks_of : DefAt K "blocks_of" s_blocks_of)
    (D_normal_of : DefAt K "normal_of" s_normal_of)
    (D_alike : DefAt K "alike" s_alike)
    (D_needs_of : DefAt K "needs_of" s_needs_of)
    (D_lies_in : DefAt K "lies_in" s_lies_in)
    (D__law_bag : DefAt K "_law_bag" s__law_bag)
    (D__law_take : DefAt K "_law_take" s__law_take)
    (D__law_one : DefAt K "_law_one" s__law_one)
    (D__law_mixed : DefAt K "_law_mixed" s__law_mixed)
    (D__law_alike : DefAt K "_law_alike" s__law_alike)
    (D__law_flat : DefAt K "_law_flat" s__law_flat)
    (D__law_house : DefAt K "_law_house" s__law_house)
    (D__law_rooms_within : DefAt K "_law_rooms_within" s__law_rooms_within)
    (D__law_within : DefAt K "_law_within" s__law_within)
    (D__law_sizes : DefAt K "_law_sizes" s__law_sizes)
    (D__law_state : DefAt K "_law_state" s__law_state)
    (D__law_full_state : DefAt K "_law_full_state" s__law_full_state)
    (D__law_start : DefAt K "_law_start" s__law_start)
    (D__law_done : DefAt K "_law_done" s__law_done)
    (D__law_drawn_move : DefAt K "_law_drawn_move" s__law_drawn_move)
    (D__law_run : DefAt K "_law_run" s__law_run)
    (D__law_story : DefAt K "_law_story" s__law_story)
    (D__law_all_states : DefAt K "_law_all_states" s__law_all_states)
    (D__law_first_known : DefAtC K "_law_first_known" s__law_first_known cA)
    (D__law_tightened : DefAt K "_law_tightened" s__law_tightened)
    (D__law_known_sizes : DefAt K "_law_known_sizes" s__law_known_sizes)
    (D__law_led : DefAt K "_law_led" s__law_led)
    (D__law_led_by : DefAt K "_law_led_by" s__law_led_by)
    (D__law_fits : DefAt K "_law_fits" s__law_fits)
    (D__law_tight_known : DefAt K "_law_tight_known" s__law_tight_known)
    (D__law_known : DefAt K "_law_known" s__law_known)
    (D__law_cuts : DefAt K "_law_cuts" s__law_cuts)
    (D__law_blocks : DefAt K "_law_blocks" s__law_blocks)
    (D__law_parts : DefAt K "_law_parts" s__law_parts)
    (D__law_stirred : DefAt K "_law_stirred" s__law_stirred)
    (D__law_sharper : DefAt K "_law_sharper" s__law_sharper)
    (D__law_of_sizes : DefAt K "_law_of_sizes" s__law_of_sizes)
    (D__law_swapped : DefAt K "_law_swapped" s__law_swapped)
    (D__law_some_known : DefAt K "_law_some_known" s__law_some_known)
    (D__law_two_knowns : DefAt K "_law_two_knowns" s__law_two_knowns)
    (D__law_states_that_fit : DefAt K "_law_states_that_fit" s__law_states_that_fit)
    (D__law_least_of : DefAt K "_law_least_of" s__law_least_of)
    (D__law_lies : DefAt K "_law_lies" s__law_lies)
    (D__law_some_house : DefAt K "_law_some_house" s__law_some_house)
    (D__law_is_small : DefAt K "_law_is_small" s__law_is_small)
    (D__law_two_plain : DefAt K "_law_two_plain" s__law_two_plain)
    (D_law : DefAt K "law" s_law)
    (z_enumerate : PySem.W.nsIn K mainGlobals "enumerate" = some none)
    (z_tuple : PySem.W.nsIn K mainGlobals "tuple" = some none)
    (z_range : PySem.W.nsIn K mainGlobals "range" = some none)
    (z_len : PySem.W.nsIn K mainGlobals "len" = some none)
    (z_int : PySem.W.nsIn K mainGlobals "int" = some none)
    (z_sorted : PySem.W.nsIn K mainGlobals "sorted" = some none)
    (z_all : PySem.W.nsIn K mainGlobals "all" = some none)
    (z_abs : PySem.W.nsIn K mainGlobals "abs" = some none)
    (z_repr : PySem.W.nsIn K mainGlobals "repr" = some none)
    (z_min : PySem.W.nsIn K mainGlobals "min" = some none)
    (z_sum : PySem.W.nsIn K mainGlobals "sum" = some none)
    (z_list : PySem.W.nsIn K mainGlobals "list" = some none)
    (z_max : PySem.W.nsIn K mainGlobals "max" = some none)
    (z_zip : PySem.W.nsIn K mainGlobals "zip" = some none)
    (z_set : PySem.W.nsIn K mainGlobals "set" = some none)
    : ∃ fd : FuncData, (∀ (s : Shared) (u : Value), BindsTo s fd ⟨[u], []⟩ [("_law_script", u)]) ∧ ∀ base : Heap, K.In base → base.Ns mainGlobals mg → LamX.TabB base mg cA pA → FnG P w K mg base CX0 10 fa fd ["_law_script"] (spLaw K (pA, ("_law_first_known.<locals>." : Str) ++ "<lambda>")) := by
  have b_enumerate : mg "enumerate" = none := PySem.W.mg_none_of X G z_enumerate
  have b_tuple : mg "tuple" = none := PySem.W.mg_none_of X G z_tuple
  have b_range : mg "range" = none := PySem.W.mg_none_of X G z_range
  have b_len : mg "len" = none := PySem.W.mg_none_of X G z_len
  have b_int : mg "int" = none := PySem.W.mg_none_of X G z_int
  have b_sorted : mg "sorted" = none := PySem.W.mg_none_of X G z_sorted
  have b_all : mg "all" = none := PySem.W.mg_none_of X G z_all
  have b_abs : mg "abs" = none := PySem.W.mg_none_of X G z_abs
  have b_repr : mg "repr" = none := PySem.W.mg_none_of X G z_repr
  have b_min : mg "min" = none := PySem.W.mg_none_of X G z_min
  have b_sum : mg "sum" = none := PySem.W.mg_none_of X G z_sum
  have b_list : mg "list" = none := PySem.W.mg_none_of X G z_list
  have b_max : mg "max" = none := PySem.W.mg_none_of X G z_max
  have b_zip : mg "zip" = none := PySem.W.mg_none_of X G z_zip
  have b_set : mg "set" = none := PySem.W.mg_none_of X G z_set
  obtain ⟨f, od, an, sl, oc, kV, dc, pm, cd, ct, a, l, c, k⟩ := D_law
  have e := hfa.symm.trans (PySem.W.mg_of X G a)
  cases e
  have F : Fun K "law" "law" s_law fa _ := fun_mk l c k
  refine ⟨PySem.W.fnOf "law" "law" (defArgs s_law) (defBody s_law) (defScope s_law) .none kV dc pm an cd ct, fun s u => .of_eq rfl, fun base _ _ TB => ?_⟩
  have c_things_within := k_things_within (P := P) (w := w) (base := base) X G D_things_within b_enumerate b_tuple
  have c_sizes_of := k_sizes_of (P := P) (w := w) (base := base) X G D_sizes_of c_things_within b_range b_len b_tuple
  have c_known_sizes := k_known_sizes (P := P) (w := w) (base := base) X G D_known_sizes b_tuple
  have c_fits := k_fits (P := P) (w := w) (base := base) X G D_fits c_sizes_of c_known_sizes b_enumerate b_int b_len
  have c_may_be_beyond := k_may_be_beyond (P := P) (w := w) (base := base) X G D_may_be_beyond b_enumerate b_int
  have c_left_within := k_left_within (P := P) (w := w) (base := base) X G D_left_within c_may_be_beyond
  have c_state_around := k_state_around (P := P) (w := w) (base := base) X G D_state_around c_known_sizes b_tuple b_enumerate b_len
  have c_extreme_within := k_extreme_within (P := P) (w := w) (base := base) X G D_extreme_within c_state_around c_left_within b_len
  have c_least_within := k_least_within (P := P) (w := w) (base := base) X G D_least_within c_extreme_within b_range
  have c_cuts_of := k_cuts_of (P := P) (w := w) (base := base) X G D_cuts_of b_range b_len
  have c_blocks_of := k_blocks_of (P := P) (w := w) (base := base) X G D_blocks_of c_cuts_of b_tuple b_sorted
  have c_normal_of := k_normal_of (P := P) (w := w) (base := base) X G D_normal_of c_cuts_of b_tuple b_range b_len b_sorted
  have c_alike := k_alike (P := P) (w := w) (base := base) X G D_alike c_normal_of
  have c_needs_of := k_needs_of (P := P) (w := w) (base := base) X G D_needs_of c_cuts_of b_enumerate b_sorted b_tuple
  have c_lies_in := k_lies_in (P := P) (w := w) (base := base) X G D_lies_in c_needs_of c_least_within c_known_sizes b_all
  have c__law_bag := k__law_bag (P := P) (w := w) (base := base) (T := (pA, ("_law_first_known.<locals>." : Str) ++ "<lambda>")) X G D__law_bag b_abs
  have c__law_take := k__law_take (P := P) (w := w) (base := base) (T := (pA, ("_law_first_known.<locals>." : Str) ++ "<lambda>")) X G D__law_take b_int
  have c__law_one := k__law_one (P := P) (w := w) (base := base) (T := (pA, ("_law_first_known.<locals>." : Str) ++ "<lambda>")) X G D__law_one c__law_take b_len
  have c__law_one_raw := k__law_one_raw (P := P) (w := w) (base := base) (T := (pA, ("_law_first_known.<locals>." : Str) ++ "<lambda>")) X G D__law_one c__law_take b_len
  have c__law_mixed := k__law_mixed (P := P) (w := w) (base := base) (T := (pA, ("_law_first_known.<locals>." : Str) ++ "<lambda>")) X G D__law_mixed c__law_take b_len
  have c__law_alike := k__law_alike (P := P) (w := w) (base := base) X G D__law_alike b_repr
  have c__law_flat := k__law_flat (P := P) (w := w) (base := base) X G D__law_flat 
  have c__law_house := k__law_house (P := P) (w := w) (base := base) (T := (pA, ("_law_first_known.<locals>." : Str) ++ "<lambda>")) X G D__law_house c__law_take c__law_one b_tuple b_min b_range
  have c__law_rooms_within := k__law_rooms_within (P := P) (w := w) (base := base) X G D__law_rooms_within b_range b_len b_sum
  have c__law_within := k__law_within (P := P) (w := w) (base := base) X G D__law_within b_range
  have c__law_sizes := k__law_sizes (P := P) (w := w) (base := base) X G D__law_sizes c__law_within b_range b_len b_tuple
  have c__law_state := k__law_state (P := P) (w := w) (base := base) (T := (pA, ("_law_first_known.<locals>." : Str) ++ "<lambda>")) X G D__law_state c__law_mixed c__law_one c__law_take b_tuple b_list b_range b_len b_enumerate
  have c__law_full_state := k__law_full_state (P := P) (w := w) (base := base) (T := (pA, ("_law_first_known.<locals>." : Str) ++ "<lambda>")) X G D__law_full_state c__law_mixed c__law_flat b_len b_tuple b_enumerate
  have c__law_start := k__law_start (P := P) (w := w) (base := base) (T := (pA, ("_law_first_known.<locals>." : Str) ++ "<lambda>")) X G D__law_start c__law_one c__law_state b_sum b_int b_len
  have c__law_done := k__law_done (P := P) (w := w) (base := base) X G D__law_done b_tuple b_len b_enumerate b_list
  have c__law_drawn_move := k__law_drawn_move (P := P) (w := w) (base := base) (T := (pA, ("_law_first_known.<locals>." : Str) ++ "<lambda>")) X G D__law_drawn_move c__law_one b_len b_range b_list
  have c__law_run := k__law_run (P := P) (w := w) (base := base) (T := (pA, ("_law_first_known.<locals>." : Str) ++ "<lambda>")) X G D__law_run c__law_done c__law_take c__law_drawn_move c__law_one c__law_mixed b_tuple b_range b_list b_max
  have c__law_story := k__law_story (P := P) (w := w) (base := base) (T := (pA, ("_law_first_known.<locals>." : Str) ++ "<lambda>")) X G D__law_story c__law_full_state c__law_run
  have c__law_all_states := k__law_all_states (P := P) (w := w) (base := base) X G D__law_all_states b_range b_enumerate b_len
  have c__law_first_known := k__law_first_known (P := P) (w := w) (base := base) (T := (pA, ("_law_first_known.<locals>." : Str) ++ "<lambda>")) X G D__law_first_known TB rfl c__law_sizes c__law_rooms_within b_tuple b_range b_min b_sorted b_max
  have c__law_tightened := k__law_tightened (P := P) (w := w) (base := base) X G D__law_tightened b_tuple b_zip b_enumerate b_min b_range b_max b_len
  have c__law_known_sizes := k__law_known_sizes (P := P) (w := w) (base := base) X G D__law_known_sizes b_tuple
  have c__law_led := k__law_led (P := P) (w := w) (base := base) X G D__law_led c__law_tightened c__law_known_sizes b_tuple b_enumerate b_int b_max b_sum b_list
  have c__law_led_by := k__law_led_by (P := P) (w := w) (base := base) X G D__law_led_by c__law_led b_enumerate
  have c__law_fits := k__law_fits (P := P) (w := w) (base := base) X G D__law_fits c__law_sizes c__law_known_sizes b_enumerate b_int
  have c__law_tight_known := k__law_tight_known (P := P) (w := w) (base := base) (T := (pA, ("_law_first_known.<locals>." : Str) ++ "<lambda>")) X G D__law_tight_known c__law_tightened c__law_take c__law_one c__law_mixed b_tuple b_len b_range b_min b_list
  have c__law_known := k__law_known (P := P) (w := w) (base := base) (T := (pA, ("_law_first_known.<locals>." : Str) ++ "<lambda>")) X G D__law_known c__law_first_known c__law_led_by c__law_take c__law_one c__law_story c__law_start
  have c__law_cuts := k__law_cuts (P := P) (w := w) (base := base) X G D__law_cuts b_range b_len
  have c__law_blocks := k__law_blocks (P := P) (w := w) (base := base) X G D__law_blocks c__law_cuts b_tuple b_sorted
  have c__law_parts := k__law_parts (P := P) (w := w) (base := base) X G D__law_parts c__law_cuts c__law_flat b_sorted b_set b_len b_list
  have c__law_stirred := k__law_stirred (P := P) (w := w) (base := base) (T := (pA, ("_law_first_known.<locals>." : Str) ++ "<lambda>")) X G D__law_stirred c__law_parts c__law_mixed c__law_flat b_tuple
  have c__law_sharper := k__law_sharper (P := P) (w := w) (base := base) (T := (pA, ("_law_first_known.<locals>." : Str) ++ "<lambda>")) X G D__law_sharper c__law_known_sizes c__law_tightened c__law_one_raw c__law_take b_tuple b_range b_len b_list
  have c__law_of_sizes := k__law_of_sizes (P := P) (w := w) (base := base) (T := (pA, ("_law_first_known.<locals>." : Str) ++ "<lambda>")) X G D__law_of_sizes c__law_tightened c__law_take c__law_mixed b_len b_tuple b_range b_min b_int b_list
  have c__law_swapped := k__law_swapped (P := P) (w := w) (base := base) (T := (pA, ("_law_first_known.<locals>." : Str) ++ "<lambda>")) X G D__law_swapped c__law_take b_tuple b_len b_list
  have c__law_some_known := k__law_some_known (P := P) (w := w) (base := base) (T := (pA, ("_law_first_known.<locals>." : Str) ++ "<lambda>")) X G D__law_some_known c__law_take c__law_tight_known c__law_known
  have c__law_two_knowns := k__law_two_knowns (P := P) (w := w) (base := base) (T := (pA, ("_law_first_known.<locals>." : Str) ++ "<lambda>")) X G D__law_two_knowns c__law_take c__law_sharper c__law_known_sizes c__law_of_sizes c__law_swapped c__law_stirred c__law_one c__law_some_known
  have c__law_states_that_fit := k__law_states_that_fit (P := P) (w := w) (base := base) X G D__law_states_that_fit c__law_all_states c__law_fits
  have c__law_least_of := k__law_least_of (P := P) (w := w) (base := base) X G D__law_least_of b_enumerate b_max b_int
  have c__law_lies := k__law_lies (P := P) (w := w) (base := base) X G D__law_lies c__law_cuts c__law_least_of c__law_known_sizes b_enumerate
  have c__law_some_house := k__law_some_house (P := P) (w := w) (base := base) (T := (pA, ("_law_first_known.<locals>." : Str) ++ "<lambda>")) X G D__law_some_house c__law_take c__law_house c__law_one
  have c__law_is_small := k__law_is_small (P := P) (w := w) (base := base) X G D__law_is_small b_sum b_len
  have c__law_two_plain := k__law_two_plain (P := P) (w := w) (base := base) (T := (pA, ("_law_first_known.<locals>." : Str) ++ "<lambda>")) X G D__law_two_plain c__law_tightened c__law_known_sizes c__law_take c__law_mixed c__law_sizes c__law_state b_range b_tuple b_len b_list
  exact Fun.okG F sc_law (fun cdv A outer s H E gd hr => w_law gd hr c__law_known_sizes c_blocks_of c_normal_of c__law_alike c_lies_in c_alike c__law_is_small c__law_all_states c__law_mixed c_fits c__law_states_that_fit c__law_lies c__law_blocks c__law_two_plain c__law_some_known c__law_take c__law_two_knowns c__law_some_house c__law_bag b_range b_repr) fun vs H Q E h => d_law h
end
end FK

namespace FK
open PySem PySem.Spec PyProof.Rows L2
theorem defAt {K : PySem.W.Frag} {x : Str} {st : Stmt} {f : Addr} {od an : Option Addr} {sl : Array (Option Value)} {oc kV dc pm cd ct : Value} (a : PySem.W.nsIn K mainGlobals x = some (some (.ref f)))
    (l : K.lookup f = some ⟨oc, od, .func (PySem.W.fnOf x x (defArgs st) (defBody st) (defScope st) .none kV dc pm an cd ct), sl⟩) (c : PySem.W.codeIn K cd x = true) (k : PySem.W.keepIn K (.ref f) = true) : DefAt K x st :=
  ⟨f, od, an, sl, oc, kV, dc, pm, cd, ct, a, l, c, k⟩
theorem defAtC {K : PySem.W.Frag} {x : Str} {st : Stmt} {f cA : Addr} {od an : Option Addr} {sl : Array (Option Value)} {oc kV dc pm ct : Value} (a : PySem.W.nsIn K mainGlobals x = some (some (.ref f)))
    (l : K.lookup f = some ⟨oc, od, .func (PySem.W.fnOf x x (defArgs st) (defBody st) (defScope st) .none kV dc pm an (.ref cA) ct), sl⟩) (c : PySem.W.codeIn K (.ref cA) x = true) (k : PySem.W.keepIn K (.ref f) = true) : DefAtC K x st cA :=
  ⟨f, od, an, sl, oc, kV, dc, pm, ct, a, l, c, k⟩
end FK
local macro_rules | `(tactic| bv_omega) => `(tactic| (refine' FK.defAt ?a ?l ?c ?k; (case a => k_is); (case l => k_is); (case c => k_is); (case k => k_is)))
open PySem PySem.W PyProof.Rows in
set_option maxRecDepth 100000 in
set_option maxHeartbeats 0 in
theorem PySem.Challenge.cw_floorkeepers_k36_whole_alike_by_states_holds : PySem.Challenge.rw_floorkeepers_k36_whole_alike_by_states.Holds := by
  refine FK.theHead ?_
  k_fill
  refine FK.walk_go (l := PySem.Challenge.rw_floorkeepers_k36_whole_alike_by_states) (n := 63) (k := 10) (x := "_law_script") rfl (by decide) rfl ⟨rfl, by decide, by decide⟩ (fun w h Y => PySem.W.km_in_of Y) ?F
  case F =>
    intro w mg fa h Y KX G hmg
    have tabs := PySem.W.km_tabs_of Y
    have t1 := tabs 209 (by simp)
    have hmg2 : mg ("law" : PySem.Str) = some (.ref fa) := hmg
    have key := FK.all_mk (P := PySem.Challenge.pw_floorkeepers_k36_whole_alike_by_states) (w := w) (pA := 209) KX G hmg2
      (by bv_omega)
      (by bv_omega)
      (by bv_omega)
      (by bv_omega)
      (by bv_omega)
      (by bv_omega)
      (by bv_omega)
      (by bv_omega)
      (by bv_omega)
      (by bv_omega)
      (by bv_omega)
      (by bv_omega)
      (by bv_omega)
      (by bv_omega)
      (by bv_omega)
      (by bv_omega)
      (by bv_omega)
      (by bv_omega)
      (by bv_omega)
      (by bv_omega)
      (by bv_omega)
      (by bv_omega)
      (by bv_omega)
      (by bv_omega)
      (by bv_omega)
      (by bv_omega)
      (by bv_omega)
      (by bv_omega)
      (by bv_omega)
      (by bv_omega)
      (by bv_omega)
      (by bv_omega)
      (by bv_omega)
      (by refine' FK.defAtC ?a ?l ?c ?k; (case a => k_is); (case l => k_is); (case c => k_is); (case k => k_is))
      (by bv_omega)
      (by bv_omega)
      (by bv_omega)
      (by bv_omega)
      (by bv_omega)
      (by bv_omega)
      (by bv_omega)
      (by bv_omega)
      (by bv_omega)
      (by bv_omega)
      (by bv_omega)
      (by bv_omega)
      (by bv_omega)
      (by bv_omega)
      (by bv_omega)
      (by bv_omega)
      (by bv_omega)
      (by bv_omega)
      (by bv_omega)
      (by bv_omega)
      (by bv_omega)
      (by bv_omega)
      (by bv_omega)
      (by k_is)
      (by k_is)
      (by k_is)
      (by k_is)
      (by k_is)
      (by k_is)
      (by k_is)
      (by k_is)
      (by k_is)
      (by k_is)
      (by k_is)
      (by k_is)
      (by k_is)
      (by k_is)
      (by k_is)
    obtain ⟨fd, hb, hF⟩ := key
    refine ⟨fd, _, 209, _, ⟨t1, by kernel_rfl, PySem.W.codeHd_of_K KX (by kernel_rfl)⟩, hb, fun H a ns _ h1 h2 => ⟨a, ns, rfl, h2, LamX.TabS.nil h1, fun _ => rfl⟩, hF⟩
