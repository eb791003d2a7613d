import PyProof.Rows.All
import Wide.All
import OpenK.AllK
import Wide.FinOn
import HandS.ForMost
import HandS.Exc
import HandS.ExcOwn
import HandS.ExcIs
import HandS.TryOnly
import HandS.WordsExc
import HandS.TupAny
import HandS.Zip
import HandS.Style
import HandS.Deep
import HandS.Conv
import HandS.Evl
import HandS.Walk
import HandS.IsInst
import HandS.Small
import HandS.Wide
import PySem.Challenge.RW_calmwires_k62_one_move
import KE.GoesEnum
import PyProof.TupleOfSeq
import HandS.More
set_option Elab.async false
set_option linter.all false
set_option maxHeartbeats 4000000
set_option maxRecDepth 100000
namespace Q3
open PySem L2 Evl

/-! ## data made of tuples -/
mutual
inductive Tp (H : Hp) : V → PyData → Prop
  | non : Tp H .non .none
  | bl (b : Bool) : Tp H (.bl b) (.bool b)
  | int (i : Int) : Tp H (.int i) (.int i)
  | str (x : Str) : Tp H (.str x) (.str x)
  | tup {a : Addr} {xs : List V} {ds : List PyData} : H a = some (.tup xs) → TpAll H xs ds → Tp H (.ref a) (.tuple ds)
inductive TpAll (H : Hp) : List V → List PyData → Prop
  | nil : TpAll H [] []
  | cons {v : V} {vs : List V} {d : PyData} {ds : List PyData} : Tp H v d → TpAll H vs ds → TpAll H (v :: vs) (d :: ds)
end
/-- all tuples stand -/
def TEx (H H' : Hp) : Prop := ∀ a xs, H a = some (.tup xs) → H' a = some (.tup xs)
theorem TEx.refl (H : Hp) : TEx H H := fun _ _ h => h
theorem TEx.trans {H H1 H2 : Hp} (a : TEx H H1) (b : TEx H1 H2) : TEx H H2 := fun x o h => b x o (a x o h)
theorem te_of {H H' : Hp} (e : Ex H H') : TEx H H' := fun a xs h => e a _ h
def isTup : HO → Bool
  | .tup _ => true
  | _ => false
theorem te_upd {H : Hp} {a : Addr} {o o' : HO} (h : H a = some o) (n : isTup o = false) : TEx H (upd H a o') := fun b xs e => by
  have hb : b ≠ a := fun q => by
    subst q
    rw [h] at e
    cases e
    cases n
  rw [upd_ne hb]
  exact e
mutual
theorem Tp.mono {H H' : Hp} (e : TEx H H') : ∀ (d : PyData) (v : V), Tp H v d → Tp H' v d
  | .none, _, h => by
    cases h
    exact .non
  | .bool b, _, h => by
    cases h
    exact .bl b
  | .int i, _, h => by
    cases h
    exact .int i
  | .str x, _, h => by
    cases h
    exact .str x
  | .list _, _, h => by cases h
  | .tuple ds, _, h => by
    cases h with
    | tup ha hs => exact .tup (e _ _ ha) (TpAll.mono e ds _ hs)
  | .dict _, _, h => by cases h
theorem TpAll.mono {H H' : Hp} (e : TEx H H') : ∀ (ds : List PyData) (vs : List V), TpAll H vs ds → TpAll H' vs ds
  | [], _, h => by
    cases h
    exact .nil
  | d :: ds, _, h => by
    cases h with
    | cons h1 h2 => exact .cons (Tp.mono e d _ h1) (TpAll.mono e ds _ h2)
end
theorem Tp.ex {H H' : Hp} {v : V} {d : PyData} (h : Tp H v d) (e : Ex H H') : Tp H' v d := Tp.mono (te_of e) d v h
theorem TpAll.ex {H H' : Hp} {v : List V} {d : List PyData} (h : TpAll H v d) (e : Ex H H') : TpAll H' v d := TpAll.mono (te_of e) d v h
mutual
theorem Tp.dp {K : PySem.W.Frag} {H : Hp} : ∀ (d : PyData) (v : V), Tp H v d → Dp K H v d
  | .none, _, h => by
    cases h
    exact .non
  | .bool b, _, h => by
    cases h
    exact .bl b
  | .int i, _, h => by
    cases h
    exact .int i
  | .str x, _, h => by
    cases h
    exact .str x
  | .list _, _, h => by cases h
  | .tuple ds, _, h => by
    cases h with
    | tup ha hs => exact .tup (st_of ha) (TpAll.dp ds _ hs)
  | .dict _, _, h => by cases h
theorem TpAll.dp {K : PySem.W.Frag} {H : Hp} : ∀ (ds : List PyData) (vs : List V), TpAll H vs ds → DpAll K H vs ds
  | [], _, h => by
    cases h
    exact .nil
  | d :: ds, _, h => by
    cases h with
    | cons h1 h2 => exact .cons (Tp.dp d _ h1) (TpAll.dp ds _ h2)
end
section
variable {H : Hp} {v : V} {vs ws : List V} {d : PyData} {ds es : List PyData}
theorem TpAll.length : ∀ {vs : List V} {ds : List PyData}, TpAll H vs ds → vs.length = ds.length
  | [], [], _ => rfl
  | _ :: _, _ :: _, h => by
    cases h with
    | cons h1 h2 => rw [List.length_cons, List.length_cons, TpAll.length h2]
  | [], _ :: _, h => by cases h
  | _ :: _, [], h => by cases h
theorem TpAll.get : ∀ {vs : List V} {ds : List PyData} {i : Nat} {d : PyData}, TpAll H vs ds → ds[i]? = some d → ∃ v, vs[i]? = some v ∧ Tp H v d
  | [], [], i, d, _, e => by simp at e
  | v :: _, d :: _, 0, d', h, e => by
    cases h with
    | cons h1 h2 =>
      have e' : d = d' := by simpa using e
      subst e'
      exact ⟨v, rfl, h1⟩
  | _ :: _, _ :: _, i + 1, d', h, e => by
    cases h with
    | cons h1 h2 =>
      obtain ⟨v, a, b⟩ := TpAll.get (i := i) (d := d') h2 (by simpa using e)
      exact ⟨v, by simpa using a, b⟩
  | [], _ :: _, _, _, h, _ => by cases h
  | _ :: _, [], _, _, h, _ => by cases h
theorem TpAll.at_ {i : Nat} (h : TpAll H vs ds) (e : vs[i]? = some v) : ∃ d, ds[i]? = some d ∧ Tp H v d := by
  have hl := h.length
  obtain ⟨hi, _⟩ := List.getElem?_eq_some_iff.mp e
  have hd : ds[i]? = some (ds[i]'(by omega)) := List.getElem?_eq_getElem (by omega)
  obtain ⟨w, hw, t⟩ := h.get hd
  rw [e] at hw
  cases hw
  exact ⟨_, hd, t⟩
theorem TpAll.append : ∀ {vs ws : List V} {ds es : List PyData}, TpAll H vs ds → TpAll H ws es → TpAll H (vs ++ ws) (ds ++ es)
  | [], _, [], _, _, h => h
  | _ :: _, _, _ :: _, _, h, h' => by
    cases h with
    | cons h1 h2 => exact .cons h1 (TpAll.append h2 h')
  | [], _, _ :: _, _, h, _ => by cases h
  | _ :: _, _, [], _, h, _ => by cases h
theorem TpAll.one (h : Tp H v d) : TpAll H [v] [d] := .cons h .nil
theorem TpAll.take : ∀ (n : Nat) {vs : List V} {ds : List PyData}, TpAll H vs ds → TpAll H (vs.take n) (ds.take n)
  | 0, _, _, _ => by
    rw [List.take_zero, List.take_zero]
    exact .nil
  | n + 1, [], [], _ => .nil
  | n + 1, _ :: _, _ :: _, h => by
    cases h with
    | cons h1 h2 => exact .cons h1 (TpAll.take n h2)
  | _, [], _ :: _, h => by cases h
  | _, _ :: _, [], h => by cases h
theorem TpAll.drop : ∀ (n : Nat) {vs : List V} {ds : List PyData}, TpAll H vs ds → TpAll H (vs.drop n) (ds.drop n)
  | 0, _, _, h => by
    rw [List.drop_zero, List.drop_zero]
    exact h
  | n + 1, [], [], h => .nil
  | n + 1, _ :: _, _ :: _, h => by
    cases h with
    | cons h1 h2 => exact TpAll.drop n h2
  | _, [], _ :: _, h => by cases h
  | _, _ :: _, [], h => by cases h
theorem TpAll.set : ∀ (i : Nat) {vs : List V} {ds : List PyData}, TpAll H vs ds → Tp H v d → TpAll H (vs.set i v) (ds.set i d)
  | _, [], [], h, _ => h
  | 0, _ :: _, _ :: _, h, t => by
    cases h with
    | cons h1 h2 => exact .cons t h2
  | i + 1, _ :: _, _ :: _, h, t => by
    cases h with
    | cons h1 h2 => exact .cons h1 (TpAll.set i h2 t)
  | _, [], _ :: _, h, _ => by cases h
  | _, _ :: _, [], h, _ => by cases h
theorem Tp.int_eq {i : Int} (h : Tp H v (.int i)) : v = .int i := by
  cases h
  rfl
theorem Tp.bl_eq {b : Bool} (h : Tp H v (.bool b)) : v = .bl b := by
  cases h
  rfl
theorem Tp.str_eq {x : Str} (h : Tp H v (.str x)) : v = .str x := by
  cases h
  rfl
theorem Tp.non_eq (h : Tp H v .none) : v = .non := by
  cases h
  rfl
theorem Tp.tup_eq (h : Tp H v (.tuple ds)) : ∃ a xs, v = .ref a ∧ H a = some (.tup xs) ∧ TpAll H xs ds := by
  cases h with
  | tup ha hs => exact ⟨_, _, rfl, ha, hs⟩
end
theorem tpAll_ints {H : Hp} : ∀ ns : List Int, TpAll H (ns.map V.int) (ns.map PyData.int)
  | [] => .nil
  | n :: ns => .cons (.int n) (tpAll_ints ns)
theorem ints_of_tpAll {H : Hp} : ∀ {ns : List Int} {vs : List V}, TpAll H vs (ns.map PyData.int) → vs = ns.map V.int
  | [], [], _ => rfl
  | n :: ns, v :: vs, h => by
    cases h with
    | cons h1 h2 => rw [h1.int_eq, ints_of_tpAll h2] <;> rfl
  | [], _ :: _, h => by cases h
  | _ :: _, [], h => by cases h

/-! ## what the slots hold -/
def pf (vg vn vh vl : V) : List (Str × V) := [("graph", vg), ("net", vn), ("here", vh), ("levels", vl)]
/-- a Play at p -/
def PlayAt (C : Addr) (H : Hp) (p : Addr) (g n h : PyData) (ls : List PyData) : Prop :=
  ∃ (dx a : Addr) (xs : List V) (vg vn vh : V), H p = some (.ins C dx (pf vg vn vh (.ref a))) ∧ Tp H vg g ∧ Tp H vn n ∧ Tp H vh h ∧ H a = some (.lst xs) ∧ TpAll H xs ls
theorem PlayAt.ex {C : Addr} {H H' : Hp} {p : Addr} {g n h : PyData} {ls : List PyData} (P : PlayAt C H p g n h ls) (e : Ex H H') : PlayAt C H' p g n h ls := by
  obtain ⟨dx, a, xs, vg, vn, vh, h1, h2, h3, h4, h5, h6⟩ := P
  exact ⟨dx, a, xs, vg, vn, vh, e _ _ h1, h2.ex e, h3.ex e, h4.ex e, e _ _ h5, h6.ex e⟩
inductive SD where
  | any
  | dat (d : PyData)
  | rdl (ds : List PyData)
  | lst (a : Addr) (ds : List PyData)
  | own (a : Addr) (P : HO → Hp → Prop)
  | play (C p : Addr) (g n h : PyData) (ls : List PyData)
def SD.ad : SD → Option Addr
  | .lst a _ => some a
  | .own a _ => some a
  | _ => none
/-- the value v, as s says; He: the heap at the entry; H: the heap now -/
def VOk (K : PySem.W.Frag) (He H : Hp) (v : V) : SD → Prop
  | .any => True
  | .dat d => Tp H v d
  | .rdl ds => ∃ a xs, v = .ref a ∧ SqL K He a xs ∧ TpAll He xs ds
  | .lst a ds => v = .ref a ∧ He a = none ∧ ∃ xs, H a = some (.lst xs) ∧ TpAll H xs ds
  | .own a P => v = .ref a ∧ He a = none ∧ ∃ o, H a = some o ∧ isTup o = false ∧ ∀ H', TEx H H' → P o H'
  | .play C p g n h ls => v = .ref p ∧ PlayAt C He p g n h ls
structure Env (K : PySem.W.Frag) (He H : Hp) (σ : L2.St) (Γ : List SD) (G : List (V × SD)) : Prop where
  ex : Ex He H
  len : σ.length = Γ.length
  at_ : ∀ (i : Nat) (s : SD), Γ[i]? = some s → s = .any ∨ ∃ v, σ[i]? = some (some v) ∧ VOk K He H v s
  gh : ∀ p ∈ G, VOk K He H p.1 p.2
  inj : ∀ (i j : Nat) (s t : SD) (a : Addr), Γ[i]? = some s → Γ[j]? = some t → s.ad = some a → t.ad = some a → i = j
  gi : ∀ (i : Nat) (s : SD) (a : Addr), Γ[i]? = some s → s.ad = some a → ∀ p ∈ G, p.2.ad ≠ some a
section
variable {K : PySem.W.Frag} {He H H' : Hp} {σ : L2.St} {Γ : List SD} {G : List (V × SD)} {v : V} {s : SD}
/-- own addresses are tracked now, not at the entry -/
theorem VOk.adr {a : Addr} (h : VOk K He H v s) (e : s.ad = some a) : He a = none ∧ ∃ o, H a = some o ∧ isTup o = false := by
  cases s with
  | any => cases e
  | dat d => cases e
  | rdl ds => cases e
  | lst b ds =>
    cases e
    obtain ⟨_, h1, xs, h2, _⟩ := h
    exact ⟨h1, _, h2, rfl⟩
  | own b P =>
    cases e
    obtain ⟨_, h1, o, h2, h3, _⟩ := h
    exact ⟨h1, o, h2, h3⟩
  | play C p g n h ls => cases e
/-- tuples stand and the own object stands -/
theorem VOk.keep (h : VOk K He H v s) (t : TEx H H') (o : ∀ a u, s.ad = some a → H a = some u → H' a = some u) : VOk K He H' v s := by
  cases s with
  | any => trivial
  | dat d => exact Tp.mono t d v h
  | rdl ds => exact h
  | lst b ds =>
    obtain ⟨h0, h1, xs, h2, h3⟩ := h
    exact ⟨h0, h1, xs, o b _ rfl h2, TpAll.mono t _ _ h3⟩
  | own b P =>
    obtain ⟨h0, h1, u, h2, h3, h4⟩ := h
    exact ⟨h0, h1, u, o b _ rfl h2, h3, fun H2 t2 => h4 H2 (t.trans t2)⟩
  | play C p g n h ls => exact h
theorem VOk.ex (h : VOk K He H v s) (e : Ex H H') : VOk K He H' v s := h.keep (te_of e) fun a u _ q => e a u q
theorem Env.mono (E : Env K He H σ Γ G) (e : Ex H H') : Env K He H' σ Γ G where
  ex := E.ex.trans e
  len := E.len
  at_ := fun i s h => (E.at_ i s h).imp id fun ⟨v, a, b⟩ => ⟨v, a, b.ex e⟩
  gh := fun p hp => (E.gh p hp).ex e
  inj := E.inj
  gi := E.gi
theorem getset {α : Type} {l : List α} {i j : Nat} {x y : α} (h : (l.set i x)[j]? = some y) : (i = j ∧ y = x ∧ i < l.length) ∨ (i ≠ j ∧ l[j]? = some y) := by
  by_cases e : i = j
  · subst e
    rw [List.getElem?_set] at h
    rw [if_pos rfl] at h
    by_cases q : i < l.length
    · rw [if_pos q] at h
      cases h
      exact .inl ⟨rfl, rfl, q⟩
    · rw [if_neg q] at h
      cases h
  · rw [List.getElem?_set_ne e] at h
    exact .inr ⟨e, h⟩
/-- a slot stored: a value that owns nothing, or a new own object -/
theorem Env.set {i : Nat} (E : Env K He H σ Γ G) (hv : VOk K He H v s)
    (hn : ∀ a, s.ad = some a → (∀ (j : Nat) (t : SD), j ≠ i → Γ[j]? = some t → t.ad ≠ some a) ∧ ∀ p ∈ G, p.2.ad ≠ some a) : Env K He H (σ.set i (some v)) (Γ.set i s) G where
  ex := E.ex
  len := by rw [List.length_set, List.length_set, E.len]
  at_ := fun j t h => by
    rcases getset h with ⟨rfl, rfl, hl⟩ | ⟨hne, h⟩
    · exact .inr ⟨v, List.getElem?_set_self (by rw [E.len]; exact hl), hv⟩
    · rcases E.at_ j t h with q | ⟨u, a, b⟩
      · exact .inl q
      · exact .inr ⟨u, by rw [List.getElem?_set_ne hne]; exact a, b⟩
  gh := E.gh
  inj := fun j k t u a hj hk et eu => by
    rcases getset hj with ⟨e1, e2, _⟩ | ⟨hne, hj'⟩
    · rcases getset hk with ⟨e3, e4, _⟩ | ⟨hne2, hk'⟩
      · exact e1.symm.trans e3
      · rw [e2] at et
        exact absurd eu ((hn a et).1 k u (Ne.symm hne2) hk')
    · rcases getset hk with ⟨e3, e4, _⟩ | ⟨hne2, hk'⟩
      · rw [e4] at eu
        exact absurd et ((hn a eu).1 j t (Ne.symm hne) hj')
      · exact E.inj j k t u a hj' hk' et eu
  gi := fun j t a hj et p hp => by
    rcases getset hj with ⟨_, e2, _⟩ | ⟨hne, hj'⟩
    · rw [e2] at et
      exact (hn a et).2 p hp
    · exact E.gi j t a hj' et p hp
theorem Env.setD {i : Nat} {d : PyData} (E : Env K He H σ Γ G) (hv : Tp H v d) : Env K He H (σ.set i (some v)) (Γ.set i (.dat d)) G :=
  E.set (s := .dat d) hv fun _ e => nomatch e
theorem Env.setAny {i : Nat} (E : Env K He H σ Γ G) : Env K He H (σ.set i (some v)) (Γ.set i .any) G :=
  E.set (s := .any) trivial fun _ e => nomatch e
/-- what is new owns an address that none has -/
theorem Env.fresh (E : Env K He H σ Γ G) {a : Addr} (h : H a = none) : (∀ (j : Nat) (t : SD), Γ[j]? = some t → t.ad ≠ some a) ∧ ∀ p ∈ G, p.2.ad ≠ some a := by
  refine ⟨fun j t hj et => ?_, fun p hp et => ?_⟩
  · rcases E.at_ j t hj with rfl | ⟨v, _, q⟩
    · cases et
    · obtain ⟨_, o, ho, _⟩ := q.adr et
      rw [h] at ho
      cases ho
  · obtain ⟨_, o, ho, _⟩ := (E.gh p hp).adr et
    rw [h] at ho
    cases ho
/-- an own object changed -/
theorem Env.upd {i : Nat} {a : Addr} {o : HO} {s' : SD} (E : Env K He H σ Γ G) (hi : Γ[i]? = some s) (ha : s.ad = some a) (ha' : s'.ad = some a ∨ s' = .any) (hv : ∀ v, VOk K He H v s → s' = .any ∨ VOk K He (upd H a o) v s') : Env K He (upd H a o) σ (Γ.set i s') G := by
  obtain ⟨v, hσ, hvo⟩ : ∃ v, σ[i]? = some (some v) ∧ VOk K He H v s := by
    rcases E.at_ i s hi with rfl | q
    · cases ha
    · exact q
  obtain ⟨he, u, hu, ht⟩ := hvo.adr ha
  have te : TEx H (L2.upd H a o) := te_upd hu ht
  have il : i < Γ.length := (List.getElem?_eq_some_iff.mp hi).1
  refine ⟨E.ex.mut he, by rw [List.length_set]; exact E.len, fun j t h => ?_, fun p hp => ?_, fun j k t u' b hj hk et eu => ?_, fun j t b hj et p hp => ?_⟩
  · rcases getset h with ⟨rfl, rfl, hl⟩ | ⟨hne, h⟩
    · rcases hv v hvo with q | q
      · exact .inl q
      · exact .inr ⟨v, hσ, q⟩
    · rcases E.at_ j t h with q | ⟨w, p, q⟩
      · exact .inl q
      · refine .inr ⟨w, p, q.keep te fun b z eb hz => ?_⟩
        have hb : b ≠ a := fun e => hne (E.inj i j s t a hi h ha (by rw [← e]; exact eb))
        rw [upd_ne hb]
        exact hz
  · refine (E.gh p hp).keep te fun b z eb hz => ?_
    have hb : b ≠ a := fun e => E.gi i s a hi ha p hp (by rw [← e]; exact eb)
    rw [upd_ne hb]
    exact hz
  · have key : ∀ {m : Nat} {r : SD}, (Γ.set i s')[m]? = some r → r.ad = some b → ∃ r', Γ[m]? = some r' ∧ r'.ad = some b := fun {m r} hm er => by
      rcases getset hm with ⟨rfl, rfl, _⟩ | ⟨_, hm⟩
      · rcases ha' with q | q
        · rw [q] at er
          cases er
          exact ⟨s, hi, ha⟩
        · rw [q] at er
          cases er
      · exact ⟨r, hm, er⟩
    obtain ⟨r1, a1, b1⟩ := key hj et
    obtain ⟨r2, a2, b2⟩ := key hk eu
    exact E.inj j k r1 r2 b a1 a2 b1 b2
  · rcases getset hj with ⟨rfl, rfl, _⟩ | ⟨_, hj⟩
    · rcases ha' with q | q
      · rw [q] at et
        cases et
        exact E.gi i s a hi ha p hp
      · rw [q] at et
        cases et
    · exact E.gi j t b hj et p hp
theorem Env.ghost (E : Env K He H σ Γ G) (hv : VOk K He H v s) (hn : ∀ a, s.ad = some a → ∀ (j : Nat) (t : SD), Γ[j]? = some t → t.ad ≠ some a) : Env K He H σ Γ ((v, s) :: G) where
  ex := E.ex
  len := E.len
  at_ := E.at_
  gh := fun p hp => by
    rcases List.mem_cons.mp hp with rfl | hp
    · exact hv
    · exact E.gh p hp
  inj := E.inj
  gi := fun i t a hi ht p hp => by
    rcases List.mem_cons.mp hp with rfl | hp
    · intro e
      exact hn a e i t hi ht
    · exact E.gi i t a hi ht p hp
theorem Env.ghostD {d : PyData} (E : Env K He H σ Γ G) (hv : Tp H v d) : Env K He H σ Γ ((v, .dat d) :: G) := E.ghost (s := .dat d) hv fun _ e => nomatch e
theorem Env.unghost {g : V × SD} (E : Env K He H σ Γ (g :: G)) : Env K He H σ Γ G :=
  ⟨E.ex, E.len, E.at_, fun p hp => E.gh p (List.mem_cons_of_mem _ hp), E.inj, fun i s a h1 h2 p hp => E.gi i s a h1 h2 p (List.mem_cons_of_mem _ hp)⟩
theorem Env.get {i : Nat} {d : PyData} (E : Env K He H σ Γ G) (h : Γ[i]? = some (.dat d)) : ∃ v, σ[i]? = some (some v) ∧ Tp H v d := by
  rcases E.at_ i _ h with q | q
  · cases q
  · exact q
/-- slots forgotten -/
def weaken (s t : SD) : Prop := t = .any ∨ t = s
theorem Env.weak {Γ' : List SD} (E : Env K He H σ Γ G) (hl : Γ'.length = Γ.length) (h : ∀ (i : Nat) (t : SD), Γ'[i]? = some t → t = .any ∨ Γ[i]? = some t) : Env K He H σ Γ' G where
  ex := E.ex
  len := by rw [E.len, hl]
  at_ := fun i t q => (h i t q).elim .inl fun q => E.at_ i t q
  gh := E.gh
  inj := fun i j s t a hi hj es et => by
    rcases h i s hi with rfl | hi
    · cases es
    · rcases h j t hj with rfl | hj
      · cases et
      · exact E.inj i j s t a hi hj es et
  gi := fun i s a hi es => by
    rcases h i s hi with rfl | hi
    · cases es
    · exact E.gi i s a hi es
end
/-- Γ' says no more than Γ -/
inductive Wk : List SD → List SD → Prop
  | nil : Wk [] []
  | same {s : SD} {Γ Γ' : List SD} : Wk Γ Γ' → Wk (s :: Γ) (s :: Γ')
  | drop {s : SD} {Γ Γ' : List SD} : Wk Γ Γ' → Wk (s :: Γ) (.any :: Γ')
theorem Wk.length : ∀ {Γ Γ' : List SD}, Wk Γ Γ' → Γ'.length = Γ.length
  | _, _, .nil => rfl
  | _, _, .same h => by rw [List.length_cons, List.length_cons, h.length]
  | _, _, .drop h => by rw [List.length_cons, List.length_cons, h.length]
theorem Wk.get : ∀ {Γ Γ' : List SD}, Wk Γ Γ' → ∀ (i : Nat) (t : SD), Γ'[i]? = some t → t = .any ∨ Γ[i]? = some t
  | _, _, .nil, i, t, h => by simp at h
  | _, _, .same (s := s) _, 0, t, h => .inr h
  | _, _, .same q, i + 1, t, h => by
    have z := q.get i t (by simpa using h)
    exact z.imp id fun z => by simpa using z
  | _, _, .drop _, 0, t, h => .inl (by simpa using h.symm)
  | _, _, .drop q, i + 1, t, h => by
    have z := q.get i t (by simpa using h)
    exact z.imp id fun z => by simpa using z
theorem Wk.refl : ∀ Γ : List SD, Wk Γ Γ
  | [] => .nil
  | _ :: r => .same (Wk.refl r)
theorem Env.wk {K : PySem.W.Frag} {He H : Hp} {σ : L2.St} {Γ Γ' : List SD} {G : List (V × SD)} (E : Env K He H σ Γ G) (h : Wk Γ Γ') : Env K He H σ Γ' G := E.weak h.length h.get
end Q3

namespace Q3
open PySem L2 Evl

/-! ## what an expression gives, by what the slots hold -/
def Xd (K : PySem.W.Frag) (te : TE) (Γ : List SD) (d : PyData) : Prop := ∀ He H σ G, Env K He H σ Γ G → ∀ Q : VK, (∀ v H2, Ex H H2 → Tp H2 v d → Q v H2) → te σ H Q
/-- a new list -/
def Xl (K : PySem.W.Frag) (te : TE) (Γ : List SD) (ds : List PyData) : Prop := ∀ He H σ G, Env K He H σ Γ G → ∀ Q : VK, (∀ a xs H2, Ex H H2 → H a = none → H2 a = some (.lst xs) → TpAll H2 xs ds → Q (.ref a) H2) → te σ H Q
/-- a list that is read -/
def Xr (K : PySem.W.Frag) (te : TE) (Γ : List SD) (ds : List PyData) : Prop := ∀ He H σ G, Env K He H σ Γ G → ∀ Q : VK, (∀ a xs H2, Ex H H2 → SqL K H2 a xs → TpAll H2 xs ds → Q (.ref a) H2) → te σ H Q
/-- any value of a kind -/
def Xq (K : PySem.W.Frag) (te : TE) (Γ : List SD) (P : PyData → Prop) : Prop := ∀ He H σ G, Env K He H σ Γ G → ∀ Q : VK, (∀ d v H2, Ex H H2 → Tp H2 v d → P d → Q v H2) → te σ H Q
def Xt (K : PySem.W.Frag) (tt : TT) (Γ : List SD) (b : Bool) : Prop := ∀ He H σ G, Env K He H σ Γ G → ∀ Q : Bool → Hp → Prop, (∀ H2, Ex H H2 → Q b H2) → tt σ H Q
/-- an argument, as the callee sees it -/
def AOk (K : PySem.W.Frag) (H : Hp) (v : V) : SD → Prop
  | .any => True
  | .dat d => Tp H v d
  | .rdl ds => ∃ a xs, v = .ref a ∧ SqL K H a xs ∧ TpAll H xs ds
  | .play C p g n h ls => v = .ref p ∧ PlayAt C H p g n h ls
  | _ => False
inductive AAll (K : PySem.W.Frag) (H : Hp) : List V → List SD → Prop
  | nil : AAll K H [] []
  | cons {v : V} {vs : List V} {s : SD} {ss : List SD} : AOk K H v s → AAll K H vs ss → AAll K H (v :: vs) (s :: ss)
theorem AOk.ex {K : PySem.W.Frag} {H H' : Hp} {v : V} : ∀ {s : SD}, AOk K H v s → Ex H H' → AOk K H' v s
  | .any, _, _ => trivial
  | .dat d, h, e => Tp.ex h e
  | .rdl ds, ⟨a, xs, h1, h2, h3⟩, e => ⟨a, xs, h1, ex_l e h2, h3.ex e⟩
  | .lst _ _, h, _ => h.elim
  | .own _ _, h, _ => h.elim
  | .play C p g n h ls, ⟨h1, h2⟩, e => ⟨h1, h2.ex e⟩
theorem AAll.ex {K : PySem.W.Frag} {H H' : Hp} : ∀ {vs : List V} {ss : List SD}, AAll K H vs ss → Ex H H' → AAll K H' vs ss
  | _, _, .nil, _ => .nil
  | _, _, .cons h t, e => .cons (h.ex e) (t.ex e)
theorem AAll.length {K : PySem.W.Frag} {H : Hp} : ∀ {vs : List V} {ss : List SD}, AAll K H vs ss → vs.length = ss.length
  | _, _, .nil => rfl
  | _, _, .cons _ t => by rw [List.length_cons, List.length_cons, t.length]
def Xa (K : PySem.W.Frag) (ta : TA) (Γ : List SD) (as : List SD) : Prop := ∀ He H σ G, Env K He H σ Γ G → ∀ Q : List V → Hp → Prop, (∀ vs H2, Ex H H2 → AAll K H2 vs as → Q vs H2) → ta σ H Q
/-- some data, side by side -/
def Xs (K : PySem.W.Frag) (ta : TA) (Γ : List SD) (ds : List PyData) : Prop := ∀ He H σ G, Env K He H σ Γ G → ∀ Q : List V → Hp → Prop, (∀ vs H2, Ex H H2 → TpAll H2 vs ds → Q vs H2) → ta σ H Q

section
variable {K : PySem.W.Frag} {Γ : List SD} {ta tb te tx : TE} {t u : TT} {d e : PyData} {ds es : List PyData} {i j : Int} {r : R2}
theorem xd_is (h : Xd K te Γ d) (q : d = e) : Xd K te Γ e := q ▸ h
theorem xl_is (h : Xl K te Γ ds) (q : ds = es) : Xl K te Γ es := q ▸ h
theorem xr_is (h : Xr K te Γ ds) (q : ds = es) : Xr K te Γ es := q ▸ h
theorem xt_is {a b : Bool} (h : Xt K t Γ a) (q : a = b) : Xt K t Γ b := q ▸ h
theorem xd_var {i : Nat} (h : Γ[i]? = some (.dat d)) : Xd K (tVar i) Γ d := fun He H σ G E Q q => by
  obtain ⟨v, hv, t⟩ := E.get h
  exact ⟨v, hv, q v H (Ex.refl H) t⟩
theorem xr_lst {i : Nat} {a : Addr} (h : Γ[i]? = some (.lst a ds)) : Xr K (tVar i) Γ ds := fun He H σ G E Q q => by
  rcases E.at_ i _ h with z | ⟨v, hv, e, he, xs, h1, h2⟩
  · cases z
  · subst e
    exact ⟨_, hv, q a xs H (Ex.refl H) (sq_of h1) h2⟩
theorem xr_rdl {i : Nat} (h : Γ[i]? = some (.rdl ds)) : Xr K (tVar i) Γ ds := fun He H σ G E Q q => by
  rcases E.at_ i _ h with z | ⟨v, hv, a, xs, e, h1, h2⟩
  · cases z
  · subst e
    exact ⟨_, hv, q a xs H (Ex.refl H) (ex_l E.ex h1) (h2.ex E.ex)⟩
theorem xr_new (h : Xl K te Γ ds) : Xr K te Γ ds := fun He H σ G E Q q => h He H σ G E Q fun a xs H2 e _ h1 h2 => q a xs H2 e (sq_of h1) h2
theorem xd_int {i : Int} : Xd K (tC (.int i)) Γ (.int i) := fun He H σ G E Q q => q _ H (Ex.refl H) (.int i)
theorem xd_bl {b : Bool} : Xd K (tC (.bl b)) Γ (.bool b) := fun He H σ G E Q q => q _ H (Ex.refl H) (.bl b)
theorem xd_str {x : Str} : Xd K (tC (.str x)) Γ (.str x) := fun He H σ G E Q q => q _ H (Ex.refl H) (.str x)
theorem xd_non : Xd K (tC .non) Γ .none := fun He H σ G E Q q => q _ H (Ex.refl H) .non
/-- two ints, one after the other -/
theorem x2 (ha : Xd K ta Γ (.int i)) (hb : Xd K tb Γ (.int j)) {He H : Hp} {σ : L2.St} {G : List (V × SD)} (E : Env K He H σ Γ G) {Q : VK} (q : ∀ H2, Ex H H2 → r (.int i) (.int j) H2 Q) : tOp r ta tb σ H Q :=
  ha He H σ G E _ fun v H2 e2 t2 => hb He H2 σ G (E.mono e2) _ fun w H3 e3 t3 => by
    rw [t2.int_eq, t3.int_eq]
    exact q H3 (e2.trans e3)
theorem xd_II {g : Int → Int → Int} (ha : Xd K ta Γ (.int i)) (hb : Xd K tb Γ (.int j)) : Xd K (tOp (rI0 fun i j => V.int (g i j)) ta tb) Γ (.int (g i j)) := fun He H σ G E Q q =>
  x2 ha hb E fun H2 e => ⟨i, j, rfl, rfl, q _ H2 e (.int _)⟩
theorem xd_IB {g : Int → Int → Bool} (ha : Xd K ta Γ (.int i)) (hb : Xd K tb Γ (.int j)) : Xd K (tOp (rI0 fun i j => V.bl (g i j)) ta tb) Γ (.bool (g i j)) := fun He H σ G E Q q =>
  x2 ha hb E fun H2 e => ⟨i, j, rfl, rfl, q _ H2 e (.bl _)⟩
theorem xd_C {C : Int → Int → Prop} {g : Int → Int → Int} (ha : Xd K ta Γ (.int i)) (hb : Xd K tb Γ (.int j)) (hc : C i j) : Xd K (tOp (rI C fun i j => V.int (g i j)) ta tb) Γ (.int (g i j)) := fun He H σ G E Q q =>
  x2 ha hb E fun H2 e => ⟨i, j, rfl, rfl, hc, q _ H2 e (.int _)⟩
theorem xd_and {a b : Nat} (ha : Xd K ta Γ (.int a)) (hb : Xd K tb Γ (.int b)) : Xd K (tOp (rI0 fun i j => V.int (Builtin.bitAnd i j)) ta tb) Γ (.int ((a &&& b : Nat) : Int)) :=
  xd_is (xd_II ha hb) (by rw [PyProof.Rows.bitAnd_pp (Int.natCast_nonneg _) (Int.natCast_nonneg _)] <;> rfl)
theorem xd_or {a b : Nat} (ha : Xd K ta Γ (.int a)) (hb : Xd K tb Γ (.int b)) : Xd K (tOp (rI0 fun i j => V.int (Builtin.bitOr i j)) ta tb) Γ (.int ((a ||| b : Nat) : Int)) :=
  xd_is (xd_II ha hb) (by rw [Bits.bitOr_pp (Int.natCast_nonneg _) (Int.natCast_nonneg _)] <;> rfl)
theorem xd_xor {a b : Nat} (ha : Xd K ta Γ (.int a)) (hb : Xd K tb Γ (.int b)) : Xd K (tOp (rI0 fun i j => V.int (Builtin.bitXor i j)) ta tb) Γ (.int ((a ^^^ b : Nat) : Int)) :=
  xd_is (xd_II ha hb) (by rw [Bits.bitXor_pp (Int.natCast_nonneg _) (Int.natCast_nonneg _)] <;> rfl)
theorem xd_shl1 {b : Nat} (ha : Xd K ta Γ (.int 1)) (hb : Xd K tb Γ (.int b)) (hc : b ≤ 1000000) : Xd K (tOp (rI CPow fun i j => V.int (i * 2 ^ j.toNat)) ta tb) Γ (.int ((1 <<< b : Nat) : Int)) :=
  xd_is (xd_C ha hb ⟨by omega, by omega, by decide⟩) (by
    rw [Int.toNat_natCast, Nat.one_shiftLeft, Int.one_mul]
    exact congrArg PyData.int (Int.natCast_pow 2 b).symm)
theorem xd_shl {a b : Nat} (ha : Xd K ta Γ (.int a)) (hb : Xd K tb Γ (.int b)) (h1 : a < 2 ^ 64) (hc : b ≤ 1000000) : Xd K (tOp (rI CPow fun i j => V.int (i * 2 ^ j.toNat)) ta tb) Γ (.int ((a <<< b : Nat) : Int)) :=
  xd_is (xd_C ha hb ⟨by omega, by omega, by simpa using h1⟩) (by
    rw [Int.toNat_natCast, Nat.shiftLeft_eq]
    exact congrArg PyData.int (by rw [Int.natCast_mul, Int.natCast_pow]; rfl))
theorem xd_shr {a b : Nat} (ha : Xd K ta Γ (.int a)) (hb : Xd K tb Γ (.int b)) : Xd K (tOp (rI (fun _ j => 0 ≤ j) fun i j => V.int (i / 2 ^ j.toNat)) ta tb) Γ (.int ((a >>> b : Nat) : Int)) :=
  xd_is (xd_C ha hb (by omega)) (by
    rw [Int.toNat_natCast, Nat.shiftRight_eq_div_pow]
    exact congrArg PyData.int (by rw [Int.natCast_ediv, Int.natCast_pow]; rfl))
theorem xd_un {g : Int → Int} (ha : Xd K ta Γ (.int i)) : Xd K (tUn (rU fun i => V.int (g i)) ta) Γ (.int (g i)) := fun He H σ G E Q q =>
  ha He H σ G E _ fun v H2 e2 t2 => by
    rw [t2.int_eq]
    exact ⟨i, rfl, q _ H2 e2 (.int _)⟩
/-- scalars compared -/
theorem scal_ii (i j : Int) : scal (.int i) (.int j) = true := rfl
theorem xd_eqI (ha : Xd K ta Γ (.int i)) (hb : Xd K tb Γ (.int j)) : Xd K (tOp rEq ta tb) Γ (.bool (decide (i = j))) := fun He H σ G E Q q =>
  x2 ha hb E fun H2 e => ⟨rfl, by
    have z : decide (V.int i = V.int j) = decide (i = j) := by simp
    rw [z]
    exact q _ H2 e (.bl _)⟩
theorem xd_neI (ha : Xd K ta Γ (.int i)) (hb : Xd K tb Γ (.int j)) : Xd K (tOp rNe ta tb) Γ (.bool (!decide (i = j))) := fun He H σ G E Q q =>
  x2 ha hb E fun H2 e => ⟨rfl, by
    have z : decide (V.int i = V.int j) = decide (i = j) := by simp
    rw [z]
    exact q _ H2 e (.bl _)⟩
theorem xd_eqB {a b : Bool} (ha : Xd K ta Γ (.bool a)) (hb : Xd K tb Γ (.bool b)) : Xd K (tOp rEq ta tb) Γ (.bool (decide (a = b))) := fun He H σ G E Q q =>
  ha He H σ G E _ fun v H2 e2 t2 => hb He H2 σ G (E.mono e2) _ fun w H3 e3 t3 => by
    rw [t2.bl_eq, t3.bl_eq]
    refine ⟨rfl, ?_⟩
    have z : decide (V.bl a = V.bl b) = decide (a = b) := by simp
    rw [z]
    exact q _ H3 (e2.trans e3) (.bl _)
theorem xd_neB {a b : Bool} (ha : Xd K ta Γ (.bool a)) (hb : Xd K tb Γ (.bool b)) : Xd K (tOp rNe ta tb) Γ (.bool (!decide (a = b))) := fun He H σ G E Q q =>
  ha He H σ G E _ fun v H2 e2 t2 => hb He H2 σ G (E.mono e2) _ fun w H3 e3 t3 => by
    rw [t2.bl_eq, t3.bl_eq]
    refine ⟨rfl, ?_⟩
    have z : decide (V.bl a = V.bl b) = decide (a = b) := by simp
    rw [z]
    exact q _ H3 (e2.trans e3) (.bl _)
theorem xd_eqS {a b : Str} (ha : Xd K ta Γ (.str a)) (hb : Xd K tb Γ (.str b)) : Xd K (tOp rEq ta tb) Γ (.bool (decide (a = b))) := fun He H σ G E Q q =>
  ha He H σ G E _ fun v H2 e2 t2 => hb He H2 σ G (E.mono e2) _ fun w H3 e3 t3 => by
    rw [t2.str_eq, t3.str_eq]
    refine ⟨rfl, ?_⟩
    have z : decide (V.str a = V.str b) = decide (a = b) := by simp
    rw [z]
    exact q _ H3 (e2.trans e3) (.bl _)
/-- data compared -/
theorem xd_eqD (ha : Xd K ta Γ d) (hb : Xd K tb Γ e) (s1 : SeqAt.shaped d = true) (s2 : SeqAt.shaped e = true) : Xd K (tOp (rEqD K) ta tb) Γ (.bool (PyData.eqv d e)) := fun He H σ G E Q q =>
  ha He H σ G E _ fun v H2 e2 t2 => hb He H2 σ G (E.mono e2) _ fun w H3 e3 t3 => ⟨d, e, Tp.dp _ _ (t2.ex e3), Tp.dp _ _ t3, s1, s2, q _ H3 (e2.trans e3) (.bl _)⟩
theorem xd_neD (ha : Xd K ta Γ d) (hb : Xd K tb Γ e) (s1 : SeqAt.shaped d = true) (s2 : SeqAt.shaped e = true) : Xd K (tOp (rNeD K) ta tb) Γ (.bool (!PyData.eqv d e)) := fun He H σ G E Q q =>
  ha He H σ G E _ fun v H2 e2 t2 => hb He H2 σ G (E.mono e2) _ fun w H3 e3 t3 => ⟨d, e, Tp.dp _ _ (t2.ex e3), Tp.dp _ _ t3, s1, s2, q _ H3 (e2.trans e3) (.bl _)⟩
/-- lists compared -/
theorem xd_eqL (ha : Xr K ta Γ ds) (hb : Xr K tb Γ es) (s1 : SeqAt.shaped (.list ds) = true) (s2 : SeqAt.shaped (.list es) = true) : Xd K (tOp (rEqD K) ta tb) Γ (.bool (PyData.eqv (.list ds) (.list es))) := fun He H σ G E Q q =>
  ha He H σ G E _ fun a xs H2 e2 l2 t2 => hb He H2 σ G (E.mono e2) _ fun b ys H3 e3 l3 t3 =>
    ⟨_, _, .lst (ex_l e3 l2) (TpAll.dp _ _ (t2.ex e3)), .lst l3 (TpAll.dp _ _ t3), s1, s2, q _ H3 (e2.trans e3) (.bl _)⟩
theorem xd_neL (ha : Xr K ta Γ ds) (hb : Xr K tb Γ es) (s1 : SeqAt.shaped (.list ds) = true) (s2 : SeqAt.shaped (.list es) = true) : Xd K (tOp (rNeD K) ta tb) Γ (.bool (!PyData.eqv (.list ds) (.list es))) := fun He H σ G E Q q =>
  ha He H σ G E _ fun a xs H2 e2 l2 t2 => hb He H2 σ G (E.mono e2) _ fun b ys H3 e3 l3 t3 =>
    ⟨_, _, .lst (ex_l e3 l2) (TpAll.dp _ _ (t2.ex e3)), .lst l3 (TpAll.dp _ _ t3), s1, s2, q _ H3 (e2.trans e3) (.bl _)⟩
theorem xd_inD (ha : Xd K ta Γ d) (hb : Xr K tb Γ ds) (s1 : SeqAt.shaped d = true) (s2 : SeqAt.shaped (.list ds) = true) : Xd K (tOp (rInD K) ta tb) Γ (.bool (ds.any fun z => PyData.eqv z d)) := fun He H σ G E Q q =>
  ha He H σ G E _ fun v H2 e2 t2 => hb He H2 σ G (E.mono e2) _ fun a xs H3 e3 l3 t3 => ⟨d, ds, Tp.dp _ _ (t2.ex e3), .lst l3 (TpAll.dp _ _ t3), s1, s2, q _ H3 (e2.trans e3) (.bl _)⟩
theorem xd_niD (ha : Xd K ta Γ d) (hb : Xr K tb Γ ds) (s1 : SeqAt.shaped d = true) (s2 : SeqAt.shaped (.list ds) = true) : Xd K (tOp (rNotInD K) ta tb) Γ (.bool (!ds.any fun z => PyData.eqv z d)) := fun He H σ G E Q q =>
  ha He H σ G E _ fun v H2 e2 t2 => hb He H2 σ G (E.mono e2) _ fun a xs H3 e3 l3 t3 => ⟨d, ds, Tp.dp _ _ (t2.ex e3), .lst l3 (TpAll.dp _ _ t3), s1, s2, q _ H3 (e2.trans e3) (.bl _)⟩
/-- t[i], xs[i] -/
theorem xd_ixT {n : Nat} (ha : Xd K ta Γ (.tuple ds)) (hb : Xd K tb Γ (.int i)) (hi : i = (n : Int)) (h : ds[n]? = some d) : Xd K (tOp (rIxT K) ta tb) Γ d := fun He H σ G E Q q =>
  ha He H σ G E _ fun v H2 e2 t2 => hb He H2 σ G (E.mono e2) _ fun w H3 e3 t3 => by
    obtain ⟨a, xs, rfl, hx, hs⟩ := t2.tup_eq
    obtain ⟨y, hy, ty⟩ := hs.get h
    rw [t3.int_eq, hi]
    exact ⟨a, xs, n, y, rfl, rfl, st_of (e3 _ _ hx), atI_nat hy, q y H3 (e2.trans e3) (ty.ex e3)⟩
theorem xd_ixL {n : Nat} (ha : Xr K ta Γ ds) (hb : Xd K tb Γ (.int i)) (hi : i = (n : Int)) (h : ds[n]? = some d) : Xd K (tOp (rIxL K) ta tb) Γ d := fun He H σ G E Q q =>
  ha He H σ G E _ fun a xs H2 e2 l2 t2 => hb He H2 σ G (E.mono e2) _ fun w H3 e3 t3 => by
    obtain ⟨y, hy, ty⟩ := t2.get h
    rw [t3.int_eq, hi]
    exact ⟨a, xs, n, y, rfl, rfl, ex_l e3 l2, atI_nat hy, q y H3 (e2.trans e3) (ty.ex e3)⟩
/-- displays -/
theorem xs_nil : Xs K tNil Γ [] := fun He H σ G E Q q => q _ H (Ex.refl H) .nil
theorem xs_cons {tr : TA} (h : Xd K ta Γ d) (hr : Xs K tr Γ ds) : Xs K (tCons ta tr) Γ (d :: ds) := fun He H σ G E Q q =>
  h He H σ G E _ fun v H2 e2 t2 => hr He H2 σ G (E.mono e2) _ fun vs H3 e3 t3 => q _ H3 (e2.trans e3) (.cons (t2.ex e3) t3)
theorem xd_tup {ta : TA} (h : Xs K ta Γ ds) (hl : ds.length ≤ 100000) : Xd K (tTup ta) Γ (.tuple ds) := fun He H σ G E Q q =>
  h He H σ G E _ fun vs H2 e2 t2 => ⟨sz_of (by rw [t2.length]; exact hl), fun p hp => q _ _ (e2.trans (Ex.new hp)) (.tup upd_same (t2.ex (Ex.new hp)))⟩
theorem xl_lst {ta : TA} (h : Xs K ta Γ ds) (hl : ds.length ≤ 100000) : Xl K (tLst ta) Γ ds := fun He H σ G E Q q =>
  h He H σ G E _ fun vs H2 e2 t2 => ⟨sz_of (by rw [t2.length]; exact hl), fun p hp => q _ _ _ (e2.trans (Ex.new hp)) (fresh_back e2 hp) upd_same (t2.ex (Ex.new hp))⟩
/-- tests -/
theorem xt_test {b : Bool} (h : Xd K te Γ (.bool b)) : Xt K (tTest te) Γ b := fun He H σ G E Q q => h He H σ G E _ fun v H2 e t => ⟨b, t.bl_eq, q H2 e⟩
theorem xt_B {b : Bool} (h : Xd K te Γ (.bool b)) : Xt K (tB te) Γ b := fun He H σ G E Q q => h He H σ G E _ fun v H2 e t => ⟨b, t.bl_eq, q H2 e⟩
theorem xt_yes : Xt K tYes Γ true := fun He H σ G E Q q => q H (Ex.refl H)
theorem xt_and {a b : Bool} (h1 : Xt K t Γ a) (h2 : a = true → Xt K u Γ b) : Xt K (tAnd t u) Γ (a && b) := fun He H σ G E Q q => h1 He H σ G E _ fun H2 e2 => by
  cases a with
  | true =>
    show u σ H2 Q
    exact h2 rfl He H2 σ G (E.mono e2) Q fun H3 e3 => q H3 (e2.trans e3)
  | false =>
    show Q false H2
    exact q H2 e2
theorem xt_or {a b : Bool} (h1 : Xt K t Γ a) (h2 : a = false → Xt K u Γ b) : Xt K (tOr t u) Γ (a || b) := fun He H σ G E Q q => h1 He H σ G E _ fun H2 e2 => by
  cases a with
  | true =>
    show Q true H2
    exact q H2 e2
  | false =>
    show u σ H2 Q
    exact h2 rfl He H2 σ G (E.mono e2) Q fun H3 e3 => q H3 (e2.trans e3)
theorem xt_not {a : Bool} (h1 : Xt K t Γ a) : Xt K (tNot t) Γ (!a) := fun He H σ G E Q q => h1 He H σ G E _ fun H2 e2 => q H2 e2
theorem xd_andV {a b : Bool} (h1 : Xd K ta Γ (.bool a)) (h2 : a = true → Xd K tb Γ (.bool b)) : Xd K (tAndV ta tb) Γ (.bool (a && b)) := fun He H σ G E Q q => h1 He H σ G E _ fun v H2 e2 t2 => ⟨a, t2.bl_eq, by
  cases a with
  | true =>
    show tb σ H2 Q
    exact h2 rfl He H2 σ G (E.mono e2) Q fun v H3 e3 t3 => q v H3 (e2.trans e3) t3
  | false =>
    show Q (.bl false) H2
    exact q _ H2 e2 (.bl _)⟩
theorem xd_orV {a b : Bool} (h1 : Xd K ta Γ (.bool a)) (h2 : a = false → Xd K tb Γ (.bool b)) : Xd K (tOrV ta tb) Γ (.bool (a || b)) := fun He H σ G E Q q => h1 He H σ G E _ fun v H2 e2 t2 => ⟨a, t2.bl_eq, by
  cases a with
  | true =>
    show Q (.bl true) H2
    exact q _ H2 e2 (.bl _)
  | false =>
    show tb σ H2 Q
    exact h2 rfl He H2 σ G (E.mono e2) Q fun v H3 e3 t3 => q v H3 (e2.trans e3) t3⟩
theorem xd_notV {a : Bool} (h1 : Xd K ta Γ (.bool a)) : Xd K (tNotV ta) Γ (.bool (!a)) := fun He H σ G E Q q => h1 He H σ G E _ fun v H2 e2 t2 => ⟨a, t2.bl_eq, q _ H2 e2 (.bl _)⟩
/-- x is None -/
def isNon : PyData → Bool
  | .none => true
  | _ => false
theorem xd_isN (ha : Xd K ta Γ d) : Xd K (tOp (fun x y H Q => y = .non ∧ Q (.bl (decide (x = .non))) H) ta (tC .non)) Γ (.bool (isNon d)) := fun He H σ G E Q q =>
  ha He H σ G E _ fun v H2 e2 t2 => ⟨rfl, by
    have z : decide (v = V.non) = isNon d := by cases t2 <;> simp [isNon]
    rw [z]
    exact q _ H2 e2 (.bl _)⟩
/-- built-in calls -/
theorem xa_nil : Xa K tNil Γ [] := fun He H σ G E Q q => q _ H (Ex.refl H) .nil
theorem xa_d {tr : TA} {ss : List SD} (h : Xd K ta Γ d) (hr : Xa K tr Γ ss) : Xa K (tCons ta tr) Γ (.dat d :: ss) := fun He H σ G E Q q =>
  h He H σ G E _ fun v H2 e2 t2 => hr He H2 σ G (E.mono e2) _ fun vs H3 e3 t3 => q _ H3 (e2.trans e3) (.cons (t2.ex e3) t3)
theorem xa_r {tr : TA} {ss : List SD} (h : Xr K ta Γ ds) (hr : Xa K tr Γ ss) : Xa K (tCons ta tr) Γ (.rdl ds :: ss) := fun He H σ G E Q q =>
  h He H σ G E _ fun a xs H2 e2 l2 t2 => hr He H2 σ G (E.mono e2) _ fun vs H3 e3 t3 => q _ H3 (e2.trans e3) (.cons ⟨a, xs, rfl, ex_l e3 l2, t2.ex e3⟩ t3)
theorem xa_p {tr : TA} {ss : List SD} {i : Nat} {C p : Addr} {g n h : PyData} {ls : List PyData} (hi : Γ[i]? = some (.play C p g n h ls)) (hr : Xa K tr Γ ss) : Xa K (tCons (tVar i) tr) Γ (.play C p g n h ls :: ss) := fun He H σ G E Q q => by
  rcases E.at_ i _ hi with z | ⟨v, hv, e, hp⟩
  · cases z
  · exact ⟨v, hv, hr He H σ G E _ fun vs H3 e3 t3 => q _ H3 e3 (.cons ⟨e, hp.ex (E.ex.trans e3)⟩ t3)⟩
theorem xd_cb1 {g : List V → Hp → VK → Prop} {z : PyData} (ha : Xd K ta Γ d) (hg : ∀ H v Q, Tp H v d → (∀ w, Tp H w z → Q w H) → g [v] H Q) : Xd K (tCB g (tCons ta tNil)) Γ z := fun He H σ G E Q q =>
  ha He H σ G E _ fun v H2 e2 t2 => hg H2 v Q t2 fun w tw => q w H2 e2 tw
theorem xd_len {ta : TE} {ds : List PyData} {n : Nat} (ha : Xd K ta Γ (.tuple ds)) (hn : ds.length = n) : Xd K (tCB (fun xs H Q => ∃ p ys, xs = [.ref p] ∧ (SqL K H p ys ∨ SqT K H p ys) ∧ Q (.int ys.length) H) (tCons ta tNil)) Γ (.int (n : Int)) := xd_cb1 ha fun H v Q t k => by
  obtain ⟨a, xs, rfl, hx, hs⟩ := t.tup_eq
  refine ⟨a, xs, rfl, .inr (st_of hx), k _ ?_⟩
  rw [hs.length, hn]
  exact .int _
theorem xd_lenL {ta : TE} {ds : List PyData} {n : Nat} (ha : Xr K ta Γ ds) (hn : ds.length = n) : Xd K (tCB (fun xs H Q => ∃ p ys, xs = [.ref p] ∧ (SqL K H p ys ∨ SqT K H p ys) ∧ Q (.int ys.length) H) (tCons ta tNil)) Γ (.int (n : Int)) := fun He H σ G E Q q =>
  ha He H σ G E _ fun a xs H2 e2 l2 t2 => ⟨a, xs, rfl, .inl l2, q _ H2 e2 (by rw [t2.length, hn]; exact .int _)⟩
theorem xd_tupOf {ta : TE} {ds : List PyData} (ha : Xr K ta Γ ds) : Xd K (tCB (fun xs H Q => ∃ p ys, xs = [.ref p] ∧ ((SqL K H p ys ∧ ∀ l, H l = none → Q (.ref l) (upd H l (.tup ys))) ∨ (SqT K H p ys ∧ Q (.ref p) H))) (tCons ta tNil)) Γ (.tuple ds) := fun He H σ G E Q q =>
  ha He H σ G E _ fun a xs H2 e2 l2 t2 => ⟨a, xs, rfl, .inl ⟨l2, fun l hl => q _ _ (e2.trans (Ex.new hl)) (.tup upd_same (t2.ex (Ex.new hl)))⟩⟩
theorem xl_listOf {ta : TE} {ds : List PyData} (ha : Xr K ta Γ ds) : Xl K (tCB (fun xs H Q => ∃ p ys, xs = [.ref p] ∧ (SqL K H p ys ∨ SqT K H p ys) ∧ ∀ l, H l = none → Q (.ref l) (upd H l (.lst ys))) (tCons ta tNil)) Γ ds := fun He H σ G E Q q =>
  ha He H σ G E _ fun a xs H2 e2 l2 t2 => ⟨a, xs, rfl, .inl l2, fun l hl => q _ _ _ (e2.trans (Ex.new hl)) (fresh_back e2 hl) upd_same (t2.ex (Ex.new hl))⟩
theorem xd_intB {ta : TE} {b : Bool} (ha : Xd K ta Γ (.bool b)) : Xd K (tCB (fun xs H Q => (∃ i, xs = [.int i] ∧ Q (.int i) H) ∨ ∃ k, xs = [.bl k] ∧ Q (.int (if k then 1 else 0)) H) (tCons ta tNil)) Γ (.int (if b then 1 else 0)) := xd_cb1 ha fun H v Q t k => by
  rw [t.bl_eq]
  exact .inr ⟨b, rfl, k _ (.int _)⟩
theorem xd_max2 (ha : Xd K ta Γ (.int i)) (hb : Xd K tb Γ (.int j)) : Xd K (tCB (fun xs H Q => ∃ i j, xs = [.int i, .int j] ∧ Q (.int (if j > i then j else i)) H) (tCons ta (tCons tb tNil))) Γ (.int (if j > i then j else i)) := fun He H σ G E Q q =>
  ha He H σ G E _ fun v H2 e2 t2 => hb He H2 σ G (E.mono e2) _ fun w H3 e3 t3 => ⟨i, j, by rw [t2.int_eq, t3.int_eq], q _ H3 (e2.trans e3) (.int _)⟩
theorem xd_min2 (ha : Xd K ta Γ (.int i)) (hb : Xd K tb Γ (.int j)) : Xd K (tCB (fun xs H Q => ∃ i j, xs = [.int i, .int j] ∧ Q (.int (if j < i then j else i)) H) (tCons ta (tCons tb tNil))) Γ (.int (if j < i then j else i)) := fun He H σ G E Q q =>
  ha He H σ G E _ fun v H2 e2 t2 => hb He H2 σ G (E.mono e2) _ fun w H3 e3 t3 => ⟨i, j, by rw [t2.int_eq, t3.int_eq], q _ H3 (e2.trans e3) (.int _)⟩
theorem xl_cat (ha : Xl K ta Γ ds) (hb : Xl K tb Γ es) (hl : ds.length + es.length ≤ 100000) : Xl K (tOp rCat ta tb) Γ (ds ++ es) := fun He H σ G E Q q =>
  ha He H σ G E _ fun a xs H2 e2 n2 l2 t2 => hb He H2 σ G (E.mono e2) _ fun b ys H3 e3 n3 l3 t3 =>
    ⟨a, b, xs, ys, rfl, rfl, e3 _ _ l2, l3, sz_of (by rw [t2.length, t3.length]; exact hl), fun p hp => q _ _ _ ((e2.trans e3).trans (Ex.new hp)) (fresh_back (e2.trans e3) hp) upd_same (((t2.ex e3).append t3).ex (Ex.new hp))⟩
/-- a variable's own list and a new one -/
theorem xl_catV {i : Nat} {a : Addr} (ha : Γ[i]? = some (.lst a ds)) (hb : Xl K tb Γ es) (hl : ds.length + es.length ≤ 100000) : Xl K (tOp rCat (tVar i) tb) Γ (ds ++ es) := fun He H σ G E Q q => by
  rcases E.at_ i _ ha with z | ⟨v, hv, e, he, xs, l2, t2⟩
  · cases z
  · subst e
    exact ⟨_, hv, hb He H σ G E _ fun b ys H3 e3 n3 l3 t3 => ⟨a, b, xs, ys, rfl, rfl, e3 _ _ l2, l3, sz_of (by rw [t2.length, t3.length]; exact hl), fun p hp => q _ _ _ (e3.trans (Ex.new hp)) (fresh_back e3 hp) upd_same (((t2.ex e3).append t3).ex (Ex.new hp))⟩⟩
theorem xd_catT (ha : Xd K ta Γ (.tuple ds)) (hb : Xd K tb Γ (.tuple es)) (hl : ds.length + es.length ≤ 100000) : Xd K (tOp (rCatA K) ta tb) Γ (.tuple (ds ++ es)) := fun He H σ G E Q q =>
  ha He H σ G E _ fun v H2 e2 t2 => hb He H2 σ G (E.mono e2) _ fun w H3 e3 t3 => by
    obtain ⟨a, xs, rfl, hx, hs⟩ := t2.tup_eq
    obtain ⟨b, ys, rfl, hy, hr⟩ := t3.tup_eq
    refine ⟨a, b, xs, ys, rfl, rfl, st_of (e3 _ _ hx), st_of hy, sz_of (by rw [hs.length, hr.length]; exact hl), fun n => ?_, fun n m => ?_, fun n m p hp => ?_⟩
    · subst n
      cases hs
      exact q _ H3 (e2.trans e3) (.tup hy hr)
    · subst m
      cases hr
      rw [List.append_nil] at q
      exact q _ H3 (e2.trans e3) (.tup (e3 _ _ hx) (hs.ex e3))
    · exact q _ _ ((e2.trans e3).trans (Ex.new hp)) (.tup upd_same (((hs.ex e3).append hr).ex (Ex.new hp)))
/-- t[lo:hi] -/
def Xo (K : PySem.W.Frag) (to : TO) (Γ : List SD) (o : Option Int) : Prop := ∀ He H σ G, Env K He H σ Γ G → ∀ Q : Option Int → Hp → Prop, (∀ H2, Ex H H2 → Q o H2) → to σ H Q
theorem xo_none : Xo K tNoPart Γ none := fun He H σ G E Q q => q H (Ex.refl H)
theorem xo_some (h : Xd K te Γ (.int i)) : Xo K (tPart te) Γ (some i) := fun He H σ G E Q q => h He H σ G E _ fun v H2 e2 t2 => ⟨i, t2.int_eq, q H2 e2⟩
def cutD (xs : List PyData) (lo hi : Option Int) : List PyData := (xs.drop (HT.sIx xs.length 0 lo)).take (HT.sIx xs.length xs.length hi - HT.sIx xs.length 0 lo)
theorem tp_cut {H : Hp} {xs : List V} (t : TpAll H xs ds) (lo hi : Option Int) : TpAll H (cutV xs lo hi) (cutD ds lo hi) := by
  unfold cutV cutD
  rw [t.length]
  exact (t.drop _).take _
theorem xd_slT {tl th : TO} {lo hi : Option Int} (ha : Xd K te Γ (.tuple ds)) (h1 : Xo K tl Γ lo) (h2 : Xo K th Γ hi) : Xd K (tSl (rSlA K) te tl th) Γ (.tuple (cutD ds lo hi)) := fun He H σ G E Q q =>
  ha He H σ G E _ fun v H2 e2 t2 => h1 He H2 σ G (E.mono e2) _ fun H3 e3 => h2 He H3 σ G (E.mono (e2.trans e3)) _ fun H4 e4 => by
    obtain ⟨a, xs, rfl, hx, hs⟩ := t2.tup_eq
    refine ⟨a, xs, rfl, st_of ((e3.trans e4) _ _ hx), fun w => ?_, fun _ p hp => ?_⟩
    · have z : cutD ds lo hi = ds := by
        unfold cutD
        rw [hs.length] at w
        rw [w.1, w.2, List.drop_zero, Nat.sub_zero, List.take_length]
      rw [z] at q
      exact q _ H4 ((e2.trans e3).trans e4) (.tup ((e3.trans e4) _ _ hx) (hs.ex (e3.trans e4)))
    · exact q _ _ (((e2.trans e3).trans e4).trans (Ex.new hp)) (.tup upd_same ((tp_cut (hs.ex (e3.trans e4)) lo hi).ex (Ex.new hp)))
theorem xl_slL {tl th : TO} {lo hi : Option Int} (ha : Xr K te Γ ds) (h1 : Xo K tl Γ lo) (h2 : Xo K th Γ hi) : Xl K (tSl (rSlL K) te tl th) Γ (cutD ds lo hi) := fun He H σ G E Q q =>
  ha He H σ G E _ fun a xs H2 e2 l2 t2 => h1 He H2 σ G (E.mono e2) _ fun H3 e3 => h2 He H3 σ G (E.mono (e2.trans e3)) _ fun H4 e4 =>
    ⟨a, xs, rfl, ex_l (e3.trans e4) l2, fun p hp => q _ _ _ (((e2.trans e3).trans e4).trans (Ex.new hp)) (fresh_back ((e2.trans e3).trans e4) hp) upd_same ((tp_cut (t2.ex (e3.trans e4)) lo hi).ex (Ex.new hp))⟩

/-! ## pure defs -/
abbrev Res := Hp → V → Hp → Prop
def RD (d : PyData) : Res := fun _ v H2 => Tp H2 v d
def RL (ds : List PyData) : Res := fun H v H2 => ∃ a xs, v = .ref a ∧ H a = none ∧ H2 a = some (.lst xs) ∧ TpAll H2 xs ds
def RQ (P : PyData → Prop) : Res := fun _ v H2 => ∃ d, P d ∧ Tp H2 v d
def RLQ (P : List PyData → Prop) : Res := fun H v H2 => ∃ ds, P ds ∧ RL ds H v H2
/-- called on what D tells of, a def that changes nothing gives what D tells -/
def spG (K : PySem.W.Frag) (D : List SD → Res → Prop) : Sp := fun vs H Q _ => ∃ as R, AAll K H vs as ∧ D as R ∧ ∀ v H2, Ex H H2 → R H v H2 → Q v H2
theorem xd_call {D : List SD → Res → Prop} {E : XK} {ta : TA} {as : List SD} (ha : Xa K ta Γ as) (hD : D as (RD d)) : Xd K (tCall (spG K D) [] E ta) Γ d := fun He H σ G En Q q =>
  ha He H σ G En _ fun vs H2 e2 t2 => ⟨as, RD d, by rw [List.append_nil]; exact t2, hD, fun v H3 e3 r => q v H3 (e2.trans e3) r⟩
theorem xl_call {D : List SD → Res → Prop} {E : XK} {ta : TA} {as : List SD} (ha : Xa K ta Γ as) (hD : D as (RL ds)) : Xl K (tCall (spG K D) [] E ta) Γ ds := fun He H σ G En Q q =>
  ha He H σ G En _ fun vs H2 e2 t2 => ⟨as, RL ds, by rw [List.append_nil]; exact t2, hD, fun v H3 e3 ⟨a, xs, ev, n, l, r⟩ => by
    subst ev
    exact q a xs H3 (e2.trans e3) (fresh_back e2 n) l r⟩
theorem xq_call {D : List SD → Res → Prop} {E : XK} {ta : TA} {as : List SD} {P : PyData → Prop} (ha : Xa K ta Γ as) (hD : D as (RQ P)) : Xq K (tCall (spG K D) [] E ta) Γ P := fun He H σ G En Q q =>
  ha He H σ G En _ fun vs H2 e2 t2 => ⟨as, RQ P, by rw [List.append_nil]; exact t2, hD, fun v H3 e3 ⟨d, p, t⟩ => q d v H3 (e2.trans e3) t p⟩
/-- a method of a Play that changes nothing -/
theorem pf_no {vg vn vh vl : V} {m : Str} (h1 : ¬ m = "graph") (h2 : ¬ m = "net") (h3 : ¬ m = "here") (h4 : ¬ m = "levels") : (pf vg vn vh vl).lookup m = none := by
  have e1 : (m == ("graph" : Str)) = false := beq_eq_false_iff_ne.mpr h1
  have e2 : (m == ("net" : Str)) = false := beq_eq_false_iff_ne.mpr h2
  have e3 : (m == ("here" : Str)) = false := beq_eq_false_iff_ne.mpr h3
  have e4 : (m == ("levels" : Str)) = false := beq_eq_false_iff_ne.mpr h4
  unfold pf
  simp only [List.lookup, e1, e2, e3, e4]
theorem xd_meth {D : List SD → Res → Prop} {E : XK} {tr : TA} {as : List SD} {i : Nat} {C p : Addr} {g n h : PyData} {ls : List PyData} {m : Str} (hi : Γ[i]? = some (.play C p g n h ls)) (hm : ∀ vg vn vh vl, (pf vg vn vh vl).lookup m = none)
    (ha : Xa K tr Γ as) (hD : D (.play C p g n h ls :: as) (RD d)) : Xd K (tMeth C m (spG K D) [] E (tVar i) tr) Γ d := fun He H σ G En Q q => by
  rcases En.at_ i _ hi with z | ⟨v, hv, e, hp⟩
  · cases z
  · subst e
    obtain ⟨dx, a, xs, vg, vn, vh, h1, h2, h3, h4, h5, h6⟩ := hp.ex En.ex
    exact ⟨_, hv, p, dx, _, rfl, h1, hm _ _ _ _, ha He H σ G En _ fun vs H2 e2 t2 => ⟨_, RD d, by rw [List.append_nil]; exact .cons ⟨rfl, hp.ex (En.ex.trans e2)⟩ t2, hD, fun v H3 e3 r => q v H3 (e2.trans e3) r⟩⟩
theorem xl_meth {D : List SD → Res → Prop} {E : XK} {tr : TA} {as : List SD} {i : Nat} {C p : Addr} {g n h : PyData} {ls : List PyData} {m : Str} (hi : Γ[i]? = some (.play C p g n h ls)) (hm : ∀ vg vn vh vl, (pf vg vn vh vl).lookup m = none)
    (ha : Xa K tr Γ as) (hD : D (.play C p g n h ls :: as) (RL ds)) : Xl K (tMeth C m (spG K D) [] E (tVar i) tr) Γ ds := fun He H σ G En Q q => by
  rcases En.at_ i _ hi with z | ⟨v, hv, e, hp⟩
  · cases z
  · subst e
    obtain ⟨dx, a, xs, vg, vn, vh, h1, h2, h3, h4, h5, h6⟩ := hp.ex En.ex
    exact ⟨_, hv, p, dx, _, rfl, h1, hm _ _ _ _, ha He H σ G En _ fun vs H2 e2 t2 => ⟨_, RL ds, by rw [List.append_nil]; exact .cons ⟨rfl, hp.ex (En.ex.trans e2)⟩ t2, hD, fun v H3 e3 ⟨b, ys, ev, n, l, r⟩ => by
      subst ev
      exact q b ys H3 (e2.trans e3) (fresh_back e2 n) l r⟩⟩
/-- a Play's fields -/
theorem xd_fld {i : Nat} {C p : Addr} {g n h : PyData} {ls : List PyData} {f : Str} (hi : Γ[i]? = some (.play C p g n h ls)) (c : Cls K C) (hn : NoAttr K C f)
    (hf : ∀ H vg vn vh vl, Tp H vg g → Tp H vn n → Tp H vh h → ∃ v, (pf vg vn vh vl).lookup f = some v ∧ Tp H v d) : Xd K (tFld K (tVar i) f) Γ d := fun He H σ G En Q q => by
  rcases En.at_ i _ hi with z | ⟨v, hv, e, hp⟩
  · cases z
  · subst e
    obtain ⟨dx, a, xs, vg, vn, vh, h1, h2, h3, h4, h5, h6⟩ := hp.ex En.ex
    obtain ⟨w, hw, t⟩ := hf H vg vn vh (.ref a) h2 h3 h4
    exact ⟨_, hv, p, C, dx, _, w, rfl, h1, c, hn, hw, q w H (Ex.refl H) t⟩
theorem lkG {vg vn vh vl : V} : (pf vg vn vh vl).lookup ("graph" : Str) = some vg := by
  have e : (("graph" : Str) == ("graph" : Str)) = true := beq_self_eq_true _
  unfold pf
  simp only [List.lookup, e]
theorem lkN {vg vn vh vl : V} : (pf vg vn vh vl).lookup ("net" : Str) = some vn := by
  have e1 : (("net" : Str) == ("graph" : Str)) = false := by decide +kernel
  have e : (("net" : Str) == ("net" : Str)) = true := beq_self_eq_true _
  unfold pf
  simp only [List.lookup, e1, e]
theorem lkH {vg vn vh vl : V} : (pf vg vn vh vl).lookup ("here" : Str) = some vh := by
  have e1 : (("here" : Str) == ("graph" : Str)) = false := by decide +kernel
  have e2 : (("here" : Str) == ("net" : Str)) = false := by decide +kernel
  have e : (("here" : Str) == ("here" : Str)) = true := beq_self_eq_true _
  unfold pf
  simp only [List.lookup, e1, e2, e]
theorem lkL {vg vn vh vl : V} : (pf vg vn vh vl).lookup ("levels" : Str) = some vl := by
  have e1 : (("levels" : Str) == ("graph" : Str)) = false := by decide +kernel
  have e2 : (("levels" : Str) == ("net" : Str)) = false := by decide +kernel
  have e3 : (("levels" : Str) == ("here" : Str)) = false := by decide +kernel
  have e : (("levels" : Str) == ("levels" : Str)) = true := beq_self_eq_true _
  unfold pf
  simp only [List.lookup, e1, e2, e3, e]
theorem xd_fG {i : Nat} {C p : Addr} {g n h : PyData} {ls : List PyData} (hi : Γ[i]? = some (.play C p g n h ls)) (c : Cls K C) (hn : NoAttr K C "graph") : Xd K (tFld K (tVar i) "graph") Γ g :=
  xd_fld hi c hn fun _ _ _ _ _ t1 _ _ => ⟨_, lkG, t1⟩
theorem xd_fN {i : Nat} {C p : Addr} {g n h : PyData} {ls : List PyData} (hi : Γ[i]? = some (.play C p g n h ls)) (c : Cls K C) (hn : NoAttr K C "net") : Xd K (tFld K (tVar i) "net") Γ n :=
  xd_fld hi c hn fun _ _ _ _ _ _ t2 _ => ⟨_, lkN, t2⟩
theorem xd_fH {i : Nat} {C p : Addr} {g n h : PyData} {ls : List PyData} (hi : Γ[i]? = some (.play C p g n h ls)) (c : Cls K C) (hn : NoAttr K C "here") : Xd K (tFld K (tVar i) "here") Γ h :=
  xd_fld hi c hn fun _ _ _ _ _ _ _ t3 => ⟨_, lkH, t3⟩
theorem xr_fL {i : Nat} {C p : Addr} {g n h : PyData} {ls : List PyData} (hi : Γ[i]? = some (.play C p g n h ls)) (c : Cls K C) (hn : NoAttr K C "levels") : Xr K (tFld K (tVar i) "levels") Γ ls := fun He H σ G En Q q => by
  rcases En.at_ i _ hi with z | ⟨v, hv, e, hp⟩
  · cases z
  · subst e
    obtain ⟨dx, a, xs, vg, vn, vh, h1, h2, h3, h4, h5, h6⟩ := hp.ex En.ex
    exact ⟨_, hv, p, C, dx, _, _, rfl, h1, c, hn, lkL, q a xs H (Ex.refl H) (sq_of h5) h6⟩
end
end Q3

namespace Q3
open PySem L2 Evl

/-! ## slots wiped -/
theorem wipe_at {σ : L2.St} {i : Nat} : ∀ {vs : List Nat}, (wipe σ vs)[i]? = if i ∈ vs ∧ i < σ.length then some none else σ[i]?
  | [] => by simp [wipe]
  | v :: vs => by
    unfold wipe
    rw [List.getElem?_set, wipe_length]
    by_cases e : v = i
    · subst e
      rw [if_pos rfl]
      by_cases q : v < σ.length
      · rw [if_pos q, if_pos ⟨List.mem_cons_self, q⟩]
      · rw [if_neg q, if_neg (fun z => q z.2)]
        exact (List.getElem?_eq_none (by omega)).symm
    · rw [if_neg e, wipe_at]
      by_cases q : i ∈ vs ∧ i < σ.length
      · rw [if_pos q, if_pos ⟨List.mem_cons_of_mem _ q.1, q.2⟩]
      · rw [if_neg q, if_neg (fun z => q ⟨(List.mem_cons.mp z.1).resolve_left fun z => e z.symm, z.2⟩)]
theorem wipe_set {σ : L2.St} {j : Nat} {x : Option V} {vs : List Nat} (h : j ∈ vs) : wipe (σ.set j x) vs = wipe σ vs := by
  refine List.ext_getElem? fun i => ?_
  rw [wipe_at, wipe_at, List.length_set]
  by_cases q : i ∈ vs ∧ i < σ.length
  · rw [if_pos q, if_pos q]
  · rw [if_neg q, if_neg q, List.getElem?_set]
    by_cases e : j = i
    · subst e
      rw [if_pos rfl, if_neg (fun z => q ⟨h, z⟩)]
      exact (List.getElem?_eq_none (Nat.le_of_not_lt fun z => q ⟨h, z⟩)).symm
    · rw [if_neg e]
theorem wipe_wipe {σ : L2.St} {vs : List Nat} : wipe (wipe σ vs) vs = wipe σ vs := by
  refine List.ext_getElem? fun i => ?_
  rw [wipe_at, wipe_length]
  by_cases q : i ∈ vs ∧ i < σ.length
  · rw [if_pos q, wipe_at, if_pos q]
  · rw [if_neg q]
def wipeS (Γ : List SD) : List Nat → List SD
  | [] => Γ
  | v :: vs => (wipeS Γ vs).set v .any
theorem wipeS_length (Γ : List SD) : ∀ vs : List Nat, (wipeS Γ vs).length = Γ.length
  | [] => rfl
  | v :: vs => by unfold wipeS; rw [List.length_set, wipeS_length Γ vs]
theorem wipeS_at {Γ : List SD} {i : Nat} : ∀ {vs : List Nat}, (wipeS Γ vs)[i]? = if i ∈ vs ∧ i < Γ.length then some .any else Γ[i]?
  | [] => by simp [wipeS]
  | v :: vs => by
    unfold wipeS
    rw [List.getElem?_set, wipeS_length]
    by_cases e : v = i
    · subst e
      rw [if_pos rfl]
      by_cases q : v < Γ.length
      · rw [if_pos q, if_pos ⟨List.mem_cons_self, q⟩]
      · rw [if_neg q, if_neg (fun z => q z.2)]
        exact (List.getElem?_eq_none (by omega)).symm
    · rw [if_neg e, wipeS_at]
      by_cases q : i ∈ vs ∧ i < Γ.length
      · rw [if_pos q, if_pos ⟨List.mem_cons_of_mem _ q.1, q.2⟩]
      · rw [if_neg q, if_neg (fun z => q ⟨(List.mem_cons.mp z.1).resolve_left fun z => e z.symm, z.2⟩)]
section
variable {K : PySem.W.Frag} {He H H' : Hp} {σ : L2.St} {Γ : List SD} {G : List (V × SD)}
theorem Env.wipe (E : Env K He H σ Γ G) (vs : List Nat) : Env K He H (L2.wipe σ vs) (wipeS Γ vs) G where
  ex := E.ex
  len := by rw [wipe_length, wipeS_length, E.len]
  at_ := fun i s h => by
    rw [wipeS_at] at h
    by_cases q : i ∈ vs ∧ i < Γ.length
    · rw [if_pos q] at h
      cases h
      exact .inl rfl
    · rw [if_neg q] at h
      rcases E.at_ i s h with z | ⟨v, a, b⟩
      · exact .inl z
      · refine .inr ⟨v, ?_, b⟩
        rw [wipe_at, if_neg (by rw [E.len]; exact q)]
        exact a
  gh := E.gh
  inj := fun i j s t a hi hj es et => by
    rw [wipeS_at] at hi hj
    by_cases q : i ∈ vs ∧ i < Γ.length
    · rw [if_pos q] at hi
      cases hi
      cases es
    · rw [if_neg q] at hi
      by_cases q2 : j ∈ vs ∧ j < Γ.length
      · rw [if_pos q2] at hj
        cases hj
        cases et
      · rw [if_neg q2] at hj
        exact E.inj i j s t a hi hj es et
  gi := fun i s a hi es => by
    rw [wipeS_at] at hi
    by_cases q : i ∈ vs ∧ i < Γ.length
    · rw [if_pos q] at hi
      cases hi
      cases es
    · rw [if_neg q] at hi
      exact E.gi i s a hi es
theorem Env.unghosts {gs : List (V × SD)} (E : Env K He H σ Γ (gs ++ G)) : Env K He H σ Γ G :=
  ⟨E.ex, E.len, E.at_, fun p hp => E.gh p (List.mem_append_right _ hp), E.inj, fun i s a h1 h2 p hp => E.gi i s a h1 h2 p (List.mem_append_right _ hp)⟩
end

/-! ## what is walked -/
/-- n turns, the m-th gives f m -/
def Xi (K : PySem.W.Frag) (wi : TI) (Γ : List SD) (Kp : List SD → Prop) (n : Nat) (f : Nat → PyData) : Prop := ∀ He H σ G, Env K He H σ Γ G → ∀ R : It → Hp → Prop,
  (∀ (J : It) (H1 : Hp) (gs : List (V × SD)), Ex H H1 → Env K He H1 σ Γ (gs ++ G) →
    (∀ H' σ' Γ', Env K He H' σ' Γ' (gs ++ G) → Kp Γ' → (∀ i, i < n → J.go i H' ∧ ∀ x H'', J.yld i H' x H'' → Ex H' H'' ∧ Tp H'' x (f i)) ∧ J.stop n H') → R J H1) → wi σ H R
/-- a target: the slots js are stored, up tells how the slots stand then -/
def Gok (K : PySem.W.Frag) (g : TG) (d : PyData) (js : List Nat) (up : List SD → List SD) : Prop := ∀ He H σ Γ G v, Env K He H σ Γ G → Tp H v d → ∀ Q : St → Hp → Prop,
  (∀ σ2, Env K He H σ2 (up Γ) G → (∀ vs : List Nat, (∀ j ∈ js, j ∈ vs) → wipe σ2 vs = wipe σ vs) → Q σ2 H) → g v σ H Q
section
variable {K : PySem.W.Frag} {Γ : List SD} {ta tb te tl : TE} {ds es : List PyData}
theorem gok_name {j : Nat} {d : PyData} : Gok K (gName j) d [j] (fun Γ => Γ.set j (.dat d)) := fun He H σ Γ G v E t Q q =>
  q _ (E.setD t) fun vs h => wipe_set (h j List.mem_cons_self)
theorem gok2 {i j : Nat} {d1 d2 : PyData} : Gok K (gTup K 2 (gCons (gName i) (gCons (gName j) gNil))) (.tuple [d1, d2]) [i, j] (fun Γ => (Γ.set i (.dat d1)).set j (.dat d2)) := fun He H σ Γ G v E t Q q => by
  obtain ⟨a, xs, rfl, hx, hs⟩ := t.tup_eq
  cases hs with
  | cons h1 hs =>
    cases hs with
    | cons h2 hs =>
      cases hs
      exact ⟨a, _, rfl, st_of hx, rfl, _, _, rfl, _, _, rfl, rfl, q _ ((E.setD h1).setD h2) fun vs h => by rw [wipe_set (h j (by simp)), wipe_set (h i (by simp))]⟩
theorem gok3 {i j k : Nat} {d1 d2 d3 : PyData} : Gok K (gTup K 3 (gCons (gName i) (gCons (gName j) (gCons (gName k) gNil)))) (.tuple [d1, d2, d3]) [i, j, k] (fun Γ => ((Γ.set i (.dat d1)).set j (.dat d2)).set k (.dat d3)) := fun He H σ Γ G v E t Q q => by
  obtain ⟨a, xs, rfl, hx, hs⟩ := t.tup_eq
  cases hs with
  | cons h1 hs =>
    cases hs with
    | cons h2 hs =>
      cases hs with
      | cons h3 hs =>
        cases hs
        exact ⟨a, _, rfl, st_of hx, rfl, _, _, rfl, _, _, rfl, _, _, rfl, rfl, q _ (((E.setD h1).setD h2).setD h3) fun vs h => by rw [wipe_set (h k (by simp)), wipe_set (h j (by simp)), wipe_set (h i (by simp))]⟩
theorem gok4 {i j k l : Nat} {d1 d2 d3 d4 : PyData} : Gok K (gTup K 4 (gCons (gName i) (gCons (gName j) (gCons (gName k) (gCons (gName l) gNil))))) (.tuple [d1, d2, d3, d4]) [i, j, k, l] (fun Γ => (((Γ.set i (.dat d1)).set j (.dat d2)).set k (.dat d3)).set l (.dat d4)) := fun He H σ Γ G v E t Q q => by
  obtain ⟨a, xs, rfl, hx, hs⟩ := t.tup_eq
  cases hs with
  | cons h1 hs =>
    cases hs with
    | cons h2 hs =>
      cases hs with
      | cons h3 hs =>
        cases hs with
        | cons h4 hs =>
          cases hs
          exact ⟨a, _, rfl, st_of hx, rfl, _, _, rfl, _, _, rfl, _, _, rfl, _, _, rfl, rfl, q _ ((((E.setD h1).setD h2).setD h3).setD h4) fun vs h => by rw [wipe_set (h l (by simp)), wipe_set (h k (by simp)), wipe_set (h j (by simp)), wipe_set (h i (by simp))]⟩
def KpT : List SD → Prop := fun _ => True
/-- over a tuple -/
theorem xi_tup {f : Nat → PyData} (h : Xd K tl Γ (.tuple ds)) (hf : ∀ m d, ds[m]? = some d → f m = d) : Xi K (iTup K tl) Γ KpT ds.length f := fun He H σ G E R k =>
  h He H σ G E _ fun v H2 e t => by
    obtain ⟨a, xs, rfl, hx, hs⟩ := t.tup_eq
    refine ⟨a, rfl, ⟨xs, st_of hx⟩, k _ H2 [(.ref a, .dat (.tuple ds))] e ((E.mono e).ghostD t) fun H' σ' Γ' E' _ => ?_⟩
    have t' : Tp H' (.ref a) (.tuple ds) := E'.gh _ List.mem_cons_self
    cases t' with
    | tup hx hs =>
      rw [← hs.length]
      refine ⟨fun i hi => ⟨walk_tup.goes i H' hi (st_of hx), fun x H'' y => ?_⟩, walk_tup.stops H' (st_of hx)⟩
      obtain ⟨rfl, hxi⟩ := walk_tup.yields i H' x H'' hi (st_of hx) y
      refine ⟨Ex.refl _, ?_⟩
      obtain ⟨d, hd, t⟩ := hs.at_ hxi
      rw [hf i d hd]
      exact t
/-- over a range -/
theorem xi_rng {tr : TA} {i : Int} (h : ∀ He H σ G, Env K He H σ Γ G → ∀ Q : List V → Hp → Prop, (∀ H2, Ex H H2 → Q [.int i] H2) → tr σ H Q) (h0 : -(2 ^ 62) ≤ i) (h1 : i < 2 ^ 62) : Xi K (iRng1 tr) Γ KpT i.toNat (fun m => .int (m : Int)) := fun He H σ G E R k =>
  h He H σ G E _ fun H2 e => ⟨i, rfl, h0, h1, k _ H2 [] e (E.mono e) fun H' σ' Γ' E' _ => ⟨fun j hj => ⟨hj, fun x H'' y => by
    obtain ⟨rfl, rfl⟩ := y
    refine ⟨Ex.refl _, ?_⟩
    rw [Int.zero_add]
    exact .int _⟩, Nat.le_refl _⟩⟩
theorem xi_range {n : Nat} (h : Xd K te Γ (.int (n : Int))) (hn : n ≤ 100000) : Xi K (iRng1 (tCons te tNil)) Γ KpT n (fun m => .int (m : Int)) := by
  have z := xi_rng (K := K) (Γ := Γ) (tr := tCons te tNil) (i := (n : Int)) (fun He H σ G E Q q => h He H σ G E _ fun v H2 e t => by
    rw [t.int_eq]
    exact q H2 e) (by omega) (by omega)
  rw [Int.toNat_natCast] at z
  exact z
/-- over a list that is read at the entry -/
theorem xi_rdl {i : Nat} {f : Nat → PyData} (h : Γ[i]? = some (.rdl ds)) (hf : ∀ m d, ds[m]? = some d → f m = d) : Xi K (iList K (tVar i)) Γ KpT ds.length f := fun He H σ G E R k => by
  rcases E.at_ i _ h with z | ⟨v, hv, a, xs, e, h1, h2⟩
  · cases z
  · subst e
    refine ⟨_, hv, a, rfl, ⟨xs, ex_l E.ex h1⟩, k _ H [] (Ex.refl H) E fun H' σ' Γ' E' _ => ?_⟩
    rw [← h2.length]
    refine ⟨fun m hm => ⟨walk_list.goes m H' hm (ex_l E'.ex h1), fun x H'' y => ?_⟩, walk_list.stops H' (ex_l E'.ex h1)⟩
    obtain ⟨rfl, hxi⟩ := walk_list.yields m H' x H'' hm (ex_l E'.ex h1) y
    obtain ⟨d, hd, t⟩ := h2.at_ hxi
    rw [hf m d hd]
    exact ⟨Ex.refl _, t.ex E'.ex⟩
/-- over an own list -/
theorem xi_own {i : Nat} {a : Addr} {f : Nat → PyData} (h : Γ[i]? = some (.lst a ds)) (hf : ∀ m d, ds[m]? = some d → f m = d) : Xi K (iList K (tVar i)) Γ (fun Γ' => Γ'[i]? = some (.lst a ds)) ds.length f := fun He H σ G E R k => by
  rcases E.at_ i _ h with z | ⟨v, hv, e, h1, xs, h2, h3⟩
  · cases z
  · subst e
    refine ⟨_, hv, a, rfl, ⟨xs, sq_of h2⟩, k _ H [] (Ex.refl H) E fun H' σ' Γ' E' kp => ?_⟩
    rcases E'.at_ i _ kp with z | ⟨v', hv', e', h1', xs', h2', h3'⟩
    · cases z
    · rw [← h3'.length]
      refine ⟨fun m hm => ⟨walk_list.goes m H' hm (sq_of h2'), fun x H'' y => ?_⟩, walk_list.stops H' (sq_of h2')⟩
      obtain ⟨rfl, hxi⟩ := walk_list.yields m H' x H'' hm (sq_of h2') y
      obtain ⟨d, hd, t⟩ := h3'.at_ hxi
      rw [hf m d hd]
      exact ⟨Ex.refl _, t⟩
/-- over a new list -/
theorem xi_new {f : Nat → PyData} (h : Xl K tl Γ ds) (hf : ∀ m d, ds[m]? = some d → f m = d) : Xi K (iList K tl) Γ KpT ds.length f := fun He H σ G E R k =>
  h He H σ G E _ fun a xs H2 e n h2 t => by
    have fr := E.fresh n
    refine ⟨a, rfl, ⟨xs, sq_of h2⟩, k _ H2 [(.ref a, .lst a ds)] e ((E.mono e).ghost (s := .lst a ds) ⟨rfl, fresh_back E.ex n, xs, h2, t⟩ fun b eb j u hj => ?_) fun H' σ' Γ' E' _ => ?_⟩
    · cases eb
      exact fr.1 j u hj
    · obtain ⟨_, _, xs', h2', h3'⟩ : VOk K He H' (.ref a) (.lst a ds) := E'.gh _ List.mem_cons_self
      rw [← h3'.length]
      refine ⟨fun m hm => ⟨walk_list.goes m H' hm (sq_of h2'), fun x H'' y => ?_⟩, walk_list.stops H' (sq_of h2')⟩
      obtain ⟨rfl, hxi⟩ := walk_list.yields m H' x H'' hm (sq_of h2') y
      obtain ⟨d, hd, t⟩ := h3'.at_ hxi
      rw [hf m d hd]
      exact ⟨Ex.refl _, t⟩
theorem ex_new2 {H : Hp} {T : Addr} {o : HO} (h : H T = none) : Ex H (upd H T o) := Ex.new h
/-- enumerate over a list that is read at the entry -/
theorem enum_at {a : Addr} {xs : List V} {H' : Hp} {f : Nat → PyData} (sq : SqL K H' a xs) (t : TpAll H' xs ds) (hf : ∀ m d, ds[m]? = some d → f m = .tuple [.int (m : Int), d]) :
    (∀ i, i < ds.length → (Ite K a).go i H' ∧ ∀ x H'', (Ite K a).yld i H' x H'' → Ex H' H'' ∧ Tp H'' x (f i)) ∧ (Ite K a).stop ds.length H' := by
  rw [← t.length]
  refine ⟨fun m hm => ⟨walk_enum.goes m H' hm sq, fun x H'' y => ?_⟩, walk_enum.stops H' sq⟩
  obtain ⟨T, x1, y1, rfl, hT, rfl, q1, q2⟩ := walk_enum.yields m H' x H'' hm sq y
  cases q1
  obtain ⟨d, hd, td⟩ := t.at_ q2
  rw [hf m d hd]
  exact ⟨Ex.new hT, .tup upd_same (.cons (.int _) (.cons (td.ex (Ex.new hT)) .nil))⟩
theorem xi_enumR {i : Nat} {f : Nat → PyData} (h : Γ[i]? = some (.rdl ds)) (hf : ∀ m d, ds[m]? = some d → f m = .tuple [.int (m : Int), d]) : Xi K (iEnum K (tCons (tVar i) tNil)) Γ KpT ds.length f := fun He H σ G E R k => by
  rcases E.at_ i _ h with z | ⟨v, hv, a, xs, e, h1, h2⟩
  · cases z
  · subst e
    exact ⟨_, hv, a, xs, rfl, ex_l E.ex h1, k _ H [] (Ex.refl H) E fun H' σ' Γ' E' _ => enum_at (ex_l E'.ex h1) (h2.ex E'.ex) hf⟩
theorem xi_enumO {i : Nat} {a : Addr} {f : Nat → PyData} (h : Γ[i]? = some (.lst a ds)) (hf : ∀ m d, ds[m]? = some d → f m = .tuple [.int (m : Int), d]) : Xi K (iEnum K (tCons (tVar i) tNil)) Γ (fun Γ' => Γ'[i]? = some (.lst a ds)) ds.length f := fun He H σ G E R k => by
  rcases E.at_ i _ h with z | ⟨v, hv, e, h1, xs, h2, h3⟩
  · cases z
  · subst e
    refine ⟨_, hv, a, xs, rfl, sq_of h2, k _ H [] (Ex.refl H) E fun H' σ' Γ' E' kp => ?_⟩
    rcases E'.at_ i _ kp with z | ⟨v', hv', e', h1', xs', h2', h3'⟩
    · cases z
    · exact enum_at (sq_of h2') h3' hf
theorem xi_enumN {f : Nat → PyData} (h : Xl K tl Γ ds) (hf : ∀ m d, ds[m]? = some d → f m = .tuple [.int (m : Int), d]) : Xi K (iEnum K (tCons tl tNil)) Γ KpT ds.length f := fun He H σ G E R k =>
  h He H σ G E _ fun a xs H2 e n h2 t => by
    have fr := E.fresh n
    refine ⟨a, xs, rfl, sq_of h2, k _ H2 [(.ref a, .lst a ds)] e ((E.mono e).ghost (s := .lst a ds) ⟨rfl, fresh_back E.ex n, xs, h2, t⟩ fun b eb j u hj => ?_) fun H' σ' Γ' E' _ => ?_⟩
    · cases eb
      exact fr.1 j u hj
    · obtain ⟨_, _, xs', h2', h3'⟩ : VOk K He H' (.ref a) (.lst a ds) := E'.gh _ List.mem_cons_self
      exact enum_at (sq_of h2') h3' hf
/-- zip of two lists that are read at the entry -/
theorem xi_zipR {i j : Nat} {f : Nat → PyData} (h : Γ[i]? = some (.rdl ds)) (h' : Γ[j]? = some (.rdl es)) (hl : ds.length = es.length) (hf : ∀ m d e, ds[m]? = some d → es[m]? = some e → f m = .tuple [d, e]) :
    Xi K (iZip K (tCons (tVar i) (tCons (tVar j) tNil))) Γ KpT ds.length f := fun He H σ G E R k => by
  rcases E.at_ i _ h with z | ⟨v, hv, a, xs, e, h1, h2⟩
  · cases z
  · subst e
    rcases E.at_ j _ h' with z | ⟨v', hv', b, ys, e, h3, h4⟩
    · cases z
    · subst e
      have e1 : ds.length = min xs.length ys.length := by rw [h2.length, h4.length]; omega
      refine ⟨_, hv, _, hv', a, b, xs, ys, rfl, ex_l E.ex h1, ex_l E.ex h3, k _ H [] (Ex.refl H) E fun H' σ' Γ' E' _ => ?_⟩
      have w := walk_zip (K := K) (a := a) (b := b) (xs := xs) (ys := ys) e1
      refine ⟨fun m hm => ⟨w.goes m H' hm ⟨ex_l E'.ex h1, ex_l E'.ex h3⟩, fun x H'' y => ?_⟩, w.stops H' ⟨ex_l E'.ex h1, ex_l E'.ex h3⟩⟩
      obtain ⟨T, x1, y1, rfl, hT, rfl, q1, q2⟩ := w.yields m H' x H'' hm ⟨ex_l E'.ex h1, ex_l E'.ex h3⟩ y
      obtain ⟨d, hd, td⟩ := (h2.ex E'.ex).at_ q1
      obtain ⟨e, he, t2⟩ := (h4.ex E'.ex).at_ q2
      rw [hf m d e hd he]
      exact ⟨Ex.new hT, .tup upd_same (.cons (td.ex (Ex.new hT)) (.cons (t2.ex (Ex.new hT)) .nil))⟩
end

/-! ## statements -/
section
variable {K : PySem.W.Frag} {He H : Hp} {σ : L2.St} {Γ : List SD} {G : List (V × SD)} {D : Ends} {te ta : TE} {t : TT} {tu tw tz tb : TS} {d : PyData} {ds : List PyData} {g : TG}
theorem s_set {i : Nat} (E : Env K He H σ Γ G) (hx : Xd K te Γ d) (k : ∀ σ' H', Ex H H' → Env K He H' σ' (Γ.set i (.dat d)) G → D.nx σ' H') : tAsg te (gName i) D σ H :=
  hx He H σ G E _ fun v H2 e t => k _ _ e ((E.mono e).setD t)
theorem s_setQ {i : Nat} {P : PyData → Prop} (E : Env K He H σ Γ G) (hx : Xq K te Γ P) (k : ∀ d σ' H', P d → Ex H H' → Env K He H' σ' (Γ.set i (.dat d)) G → D.nx σ' H') : tAsg te (gName i) D σ H :=
  hx He H σ G E _ fun d v H2 e t p => k d _ _ p e ((E.mono e).setD t)
theorem s_setL {i : Nat} (E : Env K He H σ Γ G) (hx : Xl K te Γ ds) (k : ∀ a σ' H', Ex H H' → Env K He H' σ' (Γ.set i (.lst a ds)) G → D.nx σ' H') : tAsg te (gName i) D σ H :=
  hx He H σ G E _ fun a xs H2 e n l t => k a _ _ e ((E.mono e).set (s := .lst a ds) ⟨rfl, fresh_back E.ex n, xs, l, t⟩ fun b eb => by
    cases eb
    have fr := E.fresh n
    exact ⟨fun j u _ hj => fr.1 j u hj, fr.2⟩)
/-- a, b = e | a, b, c, d = e -/
theorem s_asg {js : List Nat} {up : List SD → List SD} (E : Env K He H σ Γ G) (hx : Xd K te Γ d) (hg : Gok K g d js up) (k : ∀ σ' H', Ex H H' → Env K He H' σ' (up Γ) G → D.nx σ' H') : tAsg te g D σ H :=
  hx He H σ G E _ fun v H2 e t => hg He H2 σ Γ G v (E.mono e) t _ fun σ2 E2 _ => k σ2 H2 e E2
theorem s_ret (E : Env K He H σ Γ G) (hx : Xd K te Γ d) (k : ∀ v H', Ex He H' → Tp H' v d → D.rt v H') : tRet te D σ H :=
  hx He H σ G E _ fun v H2 e t => k v H2 (E.ex.trans e) t
theorem s_retQ {P : PyData → Prop} (E : Env K He H σ Γ G) (hx : Xq K te Γ P) (k : ∀ d v H', Ex He H' → Tp H' v d → P d → D.rt v H') : tRet te D σ H :=
  hx He H σ G E _ fun d v H2 e t p => k d v H2 (E.ex.trans e) t p
theorem s_retL (E : Env K He H σ Γ G) (hx : Xl K te Γ ds) (k : ∀ v H', Ex He H' → RL ds He v H' → D.rt v H') : tRet te D σ H :=
  hx He H σ G E _ fun a xs H2 e n l t => k _ H2 (E.ex.trans e) ⟨a, xs, rfl, fresh_back E.ex n, l, t⟩
theorem s_retV {i : Nat} {a : Addr} (E : Env K He H σ Γ G) (h : Γ[i]? = some (.lst a ds)) (k : ∀ v H', Ex He H' → RL ds He v H' → D.rt v H') : tRet (tVar i) D σ H := by
  rcases E.at_ i _ h with z | ⟨v, hv, e, h1, xs, h2, h3⟩
  · cases z
  · exact ⟨v, hv, k v H E.ex ⟨a, xs, e, h1, h2, h3⟩⟩
theorem s_if {b : Bool} (E : Env K He H σ Γ G) (h : Xt K t Γ b) (h1 : b = true → ∀ H', Ex H H' → Env K He H' σ Γ G → tu D σ H') (h2 : b = false → ∀ H', Ex H H' → Env K He H' σ Γ G → tw D σ H') : tIfS t tu tw D σ H :=
  h He H σ G E _ fun H2 e => by
    cases b with
    | true =>
      show tu D σ H2
      exact h1 rfl H2 e (E.mono e)
    | false =>
      show tw D σ H2
      exact h2 rfl H2 e (E.mono e)
/-- xs.append(e), xs an own list -/
theorem s_app {i : Nat} {a : Addr} (E : Env K He H σ Γ G) (hi : Γ[i]? = some (.lst a ds)) (hx : Xd K te Γ d) (hz : ds.length < 100000) (k : ∀ H', Env K He H' σ (Γ.set i (.lst a (ds ++ [d]))) G → D.nx σ H') :
    tDrop (tBM K "list" rAppend (tVar i) (tCons te tNil)) D σ H := by
  rcases E.at_ i _ hi with z | ⟨v, hv, e, h1, xs, h2, h3⟩
  · cases z
  · subst e
    refine ⟨_, hv, .inl ⟨rfl, xs, sq_of h2⟩, hx He H σ G E _ fun w H2 e2 t2 => ⟨a, xs, w, rfl, rfl, e2 _ _ h2, sz_lt (by rw [h3.length]; exact hz), k _ ((E.mono e2).upd hi rfl (.inl rfl) fun u hu => .inr ?_)⟩⟩
    obtain ⟨e3, h4, ys, h5, h6⟩ := hu
    have e5 : ys = xs := by
      have z := h5.symm.trans (e2 _ _ h2)
      cases z
      rfl
    subst e5
    exact ⟨e3, h4, _, upd_same, TpAll.mono (te_upd h5 rfl) _ _ (h6.append (.one t2))⟩
/-- xs.extend(e), e a new list -/
theorem s_ext {i : Nat} {a : Addr} {es : List PyData} (E : Env K He H σ Γ G) (hi : Γ[i]? = some (.lst a ds)) (hx : Xl K te Γ es) (hz : ds.length + es.length ≤ 100000) (k : ∀ H', Env K He H' σ (Γ.set i (.lst a (ds ++ es))) G → D.nx σ H') :
    tDrop (tBM K "list" rExtend (tVar i) (tCons te tNil)) D σ H := by
  rcases E.at_ i _ hi with z | ⟨v, hv, e, h1, xs, h2, h3⟩
  · cases z
  · subst e
    refine ⟨_, hv, .inl ⟨rfl, xs, sq_of h2⟩, hx He H σ G E _ fun b zs H2 e2 n2 l2 t2 => ⟨a, b, xs, zs, rfl, rfl, e2 _ _ h2, l2, sz_of (by rw [h3.length, t2.length]; exact hz), k _ ((E.mono e2).upd hi rfl (.inl rfl) fun u hu => .inr ?_)⟩⟩
    obtain ⟨e3, h4, ys, h5, h6⟩ := hu
    have e5 : ys = xs := by
      have z := h5.symm.trans (e2 _ _ h2)
      cases z
      rfl
    subst e5
    exact ⟨e3, h4, _, upd_same, TpAll.mono (te_upd h5 rfl) _ _ (h6.append t2)⟩
/-- loops: s, the state that the word speaks of -/
theorem s_for {S : Type} {wi : TI} {n : Nat} {f : Nat → PyData} {Kp : List SD → Prop} {js : Nat → List Nat} {up : Nat → List SD → List SD} (I : Nat → S → Prop) (Γs : Nat → S → List SD) (s0 : S) (E : Env K He H σ Γ G) (hi : Xi K wi Γ Kp n f)
    (h0 : I 0 s0) (hw : Wk Γ (Γs 0 s0)) (hk : ∀ m s, m ≤ n → I m s → Kp (Γs m s)) (hg : ∀ m, m < n → Gok K g (f m) (js m) (up m))
    (hs : ∀ G' m s σ' H', m < n → I m s → Env K He H' σ' (up m (Γs m s)) G' →
      tb { D with nx := fun σ2 H2 => ∃ s', I (m + 1) s' ∧ Env K He H2 σ2 (Γs (m + 1) s') G', ct := fun σ2 H2 => ∃ s', I (m + 1) s' ∧ Env K He H2 σ2 (Γs (m + 1) s') G', bk := D.nx } σ' H')
    (hd : ∀ s σ' H', I n s → Env K He H' σ' (Γs n s) G → D.nx σ' H') : tFor wi g tb D σ H :=
  hi He H σ G E _ fun J H1 gs e E1 turn => by
    refine ⟨fun m k σ' H' => k = n - m ∧ m ≤ n ∧ ∃ s, I m s ∧ Env K He H' σ' (Γs m s) (gs ++ G), ⟨n, rfl, Nat.zero_le _, s0, h0, E1.wk hw⟩, ?_⟩
    rintro m k σ' H' ⟨rfl, hm, s, is, E'⟩
    obtain ⟨go, stop⟩ := turn H' σ' (Γs m s) E' (hk m s hm is)
    by_cases hlt : m < n
    · obtain ⟨g1, g2⟩ := go m hlt
      refine .inr ⟨g1, fun σ2 H2 => ∃ s', I (m + 1) s' ∧ Env K He H2 σ2 (Γs (m + 1) s') (gs ++ G), fun σ2 H2 q => ⟨n - (m + 1), by omega, rfl, hlt, q⟩, fun x H'' y => ?_⟩
      obtain ⟨e2, t2⟩ := g2 x H'' y
      exact hg m hlt He H'' σ' (Γs m s) _ x (E'.mono e2) t2 _ fun σ2 E2 _ => hs _ m s σ2 H'' hlt is E2
    · have e3 : m = n := by omega
      subst e3
      exact .inl ⟨stop, hd s σ' H' is E'.unghosts⟩
/-- while -/
theorem s_while {S : Type} (I : S → Prop) (Γs : S → List SD) (μ : S → Nat) (b : S → Bool) (s0 : S) (E : Env K He H σ Γ G) (h0 : I s0) (hw : Wk Γ (Γs s0)) (ht : ∀ s, I s → Xt K t (Γs s) (b s))
    (hs : ∀ s σ' H', I s → b s = true → Env K He H' σ' (Γs s) G →
      tb { D with nx := fun σ2 H2 => ∃ s', (I s' ∧ μ s' < μ s) ∧ Env K He H2 σ2 (Γs s') G, ct := fun σ2 H2 => ∃ s', (I s' ∧ μ s' < μ s) ∧ Env K He H2 σ2 (Γs s') G, bk := D.nx } σ' H')
    (hd : ∀ s σ' H', I s → b s = false → Env K He H' σ' (Γs s) G → D.nx σ' H') : tWhile t tb D σ H := by
  refine ⟨fun m σ' H' => ∃ s, m = μ s ∧ I s ∧ Env K He H' σ' (Γs s) G, ⟨_, s0, rfl, h0, E.wk hw⟩, ?_⟩
  rintro m σ' H' ⟨s, rfl, is, E'⟩
  refine ht s is He H' σ' G E' _ fun H2 e2 => ?_
  cases hb : b s with
  | true => exact ⟨_, fun σ2 H3 ⟨s', ⟨i', l⟩, E3⟩ => ⟨μ s', l, s', rfl, i', E3⟩, hs s σ' H2 is hb (E'.mono e2)⟩
  | false => exact hd s σ' H2 is hb (E'.mono e2)
/-- behind the semicolon -/
theorem q_ (h : tu { D with nx := tz D } σ H) : tSeq tu tz D σ H := h
theorem q_set {i : Nat} (E : Env K He H σ Γ G) (hx : Xd K te Γ d) (k : ∀ σ' H', Ex H H' → Env K He H' σ' (Γ.set i (.dat d)) G → tz D σ' H') : tSeq (tAsg te (gName i)) tz D σ H := s_set (D := { D with nx := tz D }) E hx k
theorem q_setQ {i : Nat} {P : PyData → Prop} (E : Env K He H σ Γ G) (hx : Xq K te Γ P) (k : ∀ d σ' H', P d → Ex H H' → Env K He H' σ' (Γ.set i (.dat d)) G → tz D σ' H') : tSeq (tAsg te (gName i)) tz D σ H := s_setQ (D := { D with nx := tz D }) E hx k
theorem q_setL {i : Nat} (E : Env K He H σ Γ G) (hx : Xl K te Γ ds) (k : ∀ a σ' H', Ex H H' → Env K He H' σ' (Γ.set i (.lst a ds)) G → tz D σ' H') : tSeq (tAsg te (gName i)) tz D σ H := s_setL (D := { D with nx := tz D }) E hx k
theorem q_asg {js : List Nat} {up : List SD → List SD} (E : Env K He H σ Γ G) (hx : Xd K te Γ d) (hg : Gok K g d js up) (k : ∀ σ' H', Ex H H' → Env K He H' σ' (up Γ) G → tz D σ' H') : tSeq (tAsg te g) tz D σ H := s_asg (D := { D with nx := tz D }) E hx hg k
theorem q_if {b : Bool} (E : Env K He H σ Γ G) (h : Xt K t Γ b) (h1 : b = true → ∀ H', Ex H H' → Env K He H' σ Γ G → tu { D with nx := tz D } σ H') (h2 : b = false → ∀ H', Ex H H' → Env K He H' σ Γ G → tw { D with nx := tz D } σ H') : tSeq (tIfS t tu tw) tz D σ H := s_if (D := { D with nx := tz D }) E h h1 h2
/-- an if without else -/
theorem q_when {b : Bool} (E : Env K He H σ Γ G) (h : Xt K t Γ b) (h1 : b = true → ∀ H', Ex H H' → Env K He H' σ Γ G → tu { D with nx := tz D } σ H') (h2 : b = false → ∀ H', Ex H H' → Env K He H' σ Γ G → tz D σ H') : tSeq (tIfS t tu tNext) tz D σ H := s_if (D := { D with nx := tz D }) E h h1 h2
theorem s_when {b : Bool} (E : Env K He H σ Γ G) (h : Xt K t Γ b) (h1 : b = true → ∀ H', Ex H H' → Env K He H' σ Γ G → tu D σ H') (h2 : b = false → ∀ H', Ex H H' → Env K He H' σ Γ G → D.nx σ H') : tIfS t tu tNext D σ H := s_if E h h1 h2
theorem q_app {i : Nat} {a : Addr} (E : Env K He H σ Γ G) (hi : Γ[i]? = some (.lst a ds)) (hx : Xd K te Γ d) (hz : ds.length < 100000) (k : ∀ H', Env K He H' σ (Γ.set i (.lst a (ds ++ [d]))) G → tz D σ H') :
    tSeq (tDrop (tBM K "list" rAppend (tVar i) (tCons te tNil))) tz D σ H := s_app (D := { D with nx := tz D }) E hi hx hz k
theorem q_ext {i : Nat} {a : Addr} {es : List PyData} (E : Env K He H σ Γ G) (hi : Γ[i]? = some (.lst a ds)) (hx : Xl K te Γ es) (hz : ds.length + es.length ≤ 100000) (k : ∀ H', Env K He H' σ (Γ.set i (.lst a (ds ++ es))) G → tz D σ H') :
    tSeq (tDrop (tBM K "list" rExtend (tVar i) (tCons te tNil))) tz D σ H := s_ext (D := { D with nx := tz D }) E hi hx hz k
theorem q_for {S : Type} {wi : TI} {n : Nat} {f : Nat → PyData} {Kp : List SD → Prop} {js : Nat → List Nat} {up : Nat → List SD → List SD} (I : Nat → S → Prop) (Γs : Nat → S → List SD) (s0 : S) (E : Env K He H σ Γ G) (hi : Xi K wi Γ Kp n f)
    (h0 : I 0 s0) (hw : Wk Γ (Γs 0 s0)) (hk : ∀ m s, m ≤ n → I m s → Kp (Γs m s)) (hg : ∀ m, m < n → Gok K g (f m) (js m) (up m))
    (hs : ∀ G' m s σ' H', m < n → I m s → Env K He H' σ' (up m (Γs m s)) G' →
      tb { D with nx := fun σ2 H2 => ∃ s', I (m + 1) s' ∧ Env K He H2 σ2 (Γs (m + 1) s') G', ct := fun σ2 H2 => ∃ s', I (m + 1) s' ∧ Env K He H2 σ2 (Γs (m + 1) s') G', bk := tz D } σ' H')
    (hd : ∀ s σ' H', I n s → Env K He H' σ' (Γs n s) G → tz D σ' H') : tSeq (tFor wi g tb) tz D σ H := s_for (D := { D with nx := tz D }) I Γs s0 E hi h0 hw hk hg hs hd
theorem q_while {S : Type} (I : S → Prop) (Γs : S → List SD) (μ : S → Nat) (b : S → Bool) (s0 : S) (E : Env K He H σ Γ G) (h0 : I s0) (hw : Wk Γ (Γs s0)) (ht : ∀ s, I s → Xt K t (Γs s) (b s))
    (hs : ∀ s σ' H', I s → b s = true → Env K He H' σ' (Γs s) G →
      tb { D with nx := fun σ2 H2 => ∃ s', (I s' ∧ μ s' < μ s) ∧ Env K He H2 σ2 (Γs s') G, ct := fun σ2 H2 => ∃ s', (I s' ∧ μ s' < μ s) ∧ Env K He H2 σ2 (Γs s') G, bk := tz D } σ' H')
    (hd : ∀ s σ' H', I s → b s = false → Env K He H' σ' (Γs s) G → tz D σ' H') : tSeq (tWhile t tb) tz D σ H := s_while (D := { D with nx := tz D }) I Γs μ b s0 E h0 hw ht hs hd
end

/-! ## comprehensions -/
theorem filt_take {α : Type} {l : List α} {m : Nat} {x : α} (h : l[m]? = some x) : l.take (m + 1) = l.take m ++ [x] := by
  rw [List.take_add_one, h]
  rfl
section
variable {K : PySem.W.Frag} {Γ : List SD} {te : TE} {tt : TT} {g : TG} {wi : TI}
theorem xl_lc {α : Type} {l : List α} {vs : List Nat} {n : Nat} {f : Nat → PyData} {Kp : List SD → Prop} (b : α → Bool) (e : α → PyData) (hi : Xi K wi Γ Kp n f) (hn : n = l.length) (hz : l.length ≤ 100000) (hk : Kp (wipeS Γ vs))
    (hs : ∀ m x, l[m]? = some x → ∃ js up, Gok K g (f m) js up ∧ (∀ j ∈ js, j ∈ vs) ∧ Xt K tt (up (wipeS Γ vs)) (b x) ∧ (b x = true → Xd K te (up (wipeS Γ vs)) (e x))) :
    Xl K (tLc wi g tt te vs) Γ ((l.filter b).map e) := fun He H σ G E Q q =>
  hi He H σ G E _ fun J H1 gs e1 E1 turn => fun Da hD => by
    subst hn
    refine ⟨fun m k H' => k = l.length - m ∧ m ≤ l.length ∧ Ex H1 H' ∧ ∃ acc, H' Da = some (.lst acc) ∧ TpAll H' acc (((l.take m).filter b).map e), ⟨_, rfl, Nat.zero_le _, Ex.new hD, [], upd_same, by simp; exact .nil⟩, ?_⟩
    rintro m k H' ⟨rfl, hm, e2, acc, ha, ht⟩
    have Ew : Env K He H' (wipe σ vs) (wipeS Γ vs) (gs ++ G) := (E1.mono e2).wipe vs
    obtain ⟨go, stop⟩ := turn H' _ _ Ew hk
    by_cases hlt : m < l.length
    · obtain ⟨g1, g2⟩ := go m hlt
      have hx : l[m]? = some l[m] := List.getElem?_eq_getElem hlt
      obtain ⟨js, up, hg, hj, hT, hE⟩ := hs m _ hx
      refine .inr ⟨g1, fun H2 => Ex H1 H2 ∧ ∃ acc, H2 Da = some (.lst acc) ∧ TpAll H2 acc (((l.take (m + 1)).filter b).map e), fun H2 ⟨p1, p2⟩ => ⟨l.length - (m + 1), by omega, rfl, hlt, p1, p2⟩, fun x H'' y => ?_⟩
      obtain ⟨e3, t3⟩ := g2 x H'' y
      refine hg He H'' _ _ _ x (Ew.mono e3) t3 _ fun σ2 E2 w2 => ⟨by rw [w2 vs hj, wipe_wipe], ?_⟩
      refine hT He H'' σ2 _ E2 _ fun H3 e4 => ?_
      have lt : (((l.take m).filter b).map e).length < 100000 := by
        rw [List.length_map]
        have := List.length_filter_le b (l.take m)
        rw [List.length_take] at this
        omega
      cases hb : b l[m] with
      | true =>
        show te σ2 H3 _
        refine hE hb He H3 σ2 _ (E2.mono e4) _ fun v H4 e5 t5 => ⟨acc, e5 _ _ (e4 _ _ (e3 _ _ ha)), sz_lt (by rw [ht.length]; exact lt), ?_, _, upd_same, ?_⟩
        · exact (((e2.trans e3).trans e4).trans e5).mut hD
        · rw [filt_take hx, List.filter_append, List.map_append, List.filter_cons, if_pos hb]
          exact TpAll.mono (te_upd (e5 _ _ (e4 _ _ (e3 _ _ ha))) rfl) _ _ ((((ht.ex e3).ex e4).ex e5).append (.one t5))
      | false =>
        show Ex H1 H3 ∧ _
        refine ⟨(e2.trans e3).trans e4, acc, e4 _ _ (e3 _ _ ha), ?_⟩
        rw [filt_take hx, List.filter_append, List.map_append, List.filter_cons, if_neg (by rw [hb]; decide)]
        simp only [List.filter_nil, List.map_nil, List.append_nil]
        exact (ht.ex e3).ex e4
    · have e3 : m = l.length := by omega
      subst e3
      rw [List.take_length] at ht
      exact .inl ⟨stop, q Da acc H' (e1.trans e2) (fresh_back e1 hD) ha ht⟩
/-- without a test -/
theorem xl_lcAll {α : Type} {l : List α} {vs : List Nat} {n : Nat} {f : Nat → PyData} {Kp : List SD → Prop} (e : α → PyData) (hi : Xi K wi Γ Kp n f) (hn : n = l.length) (hz : l.length ≤ 100000) (hk : Kp (wipeS Γ vs))
    (hs : ∀ m x, l[m]? = some x → ∃ js up, Gok K g (f m) js up ∧ (∀ j ∈ js, j ∈ vs) ∧ Xd K te (up (wipeS Γ vs)) (e x)) :
    Xl K (tLc wi g tYes te vs) Γ (l.map e) := by
  have z := xl_lc (K := K) (Γ := Γ) (wi := wi) (g := g) (tt := tYes) (te := te) (vs := vs) (fun _ => true) e hi hn hz hk fun m x hx => by
    obtain ⟨js, up, h1, h2, h3⟩ := hs m x hx
    exact ⟨js, up, h1, h2, xt_yes, fun _ => h3⟩
  rw [List.filter_eq_self.mpr (fun _ _ => rfl)] at z
  exact z
end

/-! ## a pure def -/
theorem env_start {K : PySem.W.Frag} {H : Hp} {N : List Str} {vs : List V} {as : List SD} (h : AAll K H vs as) (hl : vs.length ≤ N.length) : Env K H H (start N vs) (as ++ List.replicate (N.length - as.length) .any) [] := by
  have hlen := h.length
  have key : ∀ (vs : List V) (as : List SD), AAll K H vs as → ∀ (i : Nat) (s : SD), as[i]? = some s → s = .any ∨ ∃ v, vs[i]? = some v ∧ VOk K H H v s ∧ s.ad = none := by
    intro vs as h
    induction h with
    | nil => intro i s hs; simp at hs
    | @cons v vs' s' ss ho _ ih =>
      intro i s hs
      cases i with
      | zero =>
        have e : s' = s := Option.some.inj hs
        subst e
        cases s' with
        | any => exact .inl rfl
        | dat d => exact .inr ⟨v, rfl, ho, rfl⟩
        | rdl ds => exact .inr ⟨v, rfl, ho, rfl⟩
        | lst a ds => exact ho.elim
        | own a P => exact ho.elim
        | play C p g n h ls => exact .inr ⟨v, rfl, ho, rfl⟩
      | succ i =>
        rcases ih i s (by simpa using hs) with z | ⟨w, a, b⟩
        · exact .inl z
        · exact .inr ⟨w, by simpa using a, b⟩
  have key2 : ∀ (i : Nat) (s : SD), (as ++ List.replicate (N.length - as.length) SD.any)[i]? = some s → s = .any ∨ ∃ v, vs[i]? = some v ∧ VOk K H H v s ∧ s.ad = none := by
    intro i s hs
    by_cases hi : i < as.length
    · rw [List.getElem?_append_left hi] at hs
      exact key vs as h i s hs
    · rw [List.getElem?_append_right (by omega)] at hs
      rw [List.getElem?_replicate] at hs
      split at hs
      · exact .inl (Option.some.inj hs).symm
      · cases hs
  refine ⟨Ex.refl H, ?_, fun i s hs => ?_, (fun p hp => nomatch hp), fun i j s t a hi hj es et => ?_, (fun i s a hi es p hp => nomatch hp)⟩
  · unfold L2.start
    rw [List.length_append, List.length_map, List.length_replicate, List.length_append, List.length_replicate, hlen]
  · rcases key2 i s hs with z | ⟨v, a, b, _⟩
    · exact .inl z
    · refine .inr ⟨v, ?_, b⟩
      unfold L2.start
      have hi : i < vs.length := (List.getElem?_eq_some_iff.mp a).1
      rw [List.getElem?_append_left (by rw [List.length_map]; exact hi), List.getElem?_map, a]
      rfl
  · rcases key2 i s hi with rfl | ⟨v, _, _, z⟩
    · cases es
    · rw [z] at es
      cases es
section
variable {P : Program} {w : World} {K : PySem.W.Frag} {mg : Str → Option Value} {base : Heap}
theorem Fun.pure {x qual : Str} {st : Stmt} {f : Addr} {fd : FuncData} {N ps : List Str} {k : Nat} {D : List SD → Res → Prop} (F : Fun K x qual st f fd) (S : FnScope N ps (defScope st)) (hl : ∀ as R, D as R → as.length = ps.length) (hp : ps.length ≤ N.length)
    (hb : ∀ (cdv : Value) (A : Around) (outer : List _root_.PySem.Env) (s : Shared) (H : Hp) (E : XK), Room k (A.deeper (PyProof.Rows.envOfC qual (defScope st) s.heap.objs.size f cdv)) →
      ∃ t, PSs (cxOf CX0 P w K mg base N qual (defScope st) f cdv A outer s H E).nox (defBody st) t ∧
        ∀ as R, D as R → ∀ (He : Hp) (σ : L2.St) (Q : VK), Q3.Env K He He σ (as ++ List.replicate (N.length - as.length) .any) [] → (∀ v H2, Ex He H2 → R He v H2 → Q v H2) →
          t { nx := fun _ H' => Q .non H', rt := Q, bk := fun _ _ => False, ct := fun _ _ => False } σ He) : FnOk P w K mg base CX0 (k + 1) f fd ps (spG K D) := by
  refine F.ok S (fun vs H Q E ⟨as, R, ha, hD, _⟩ => by rw [ha.length]; exact hl as R hD) fun cdv A outer s H vs Q E hr h => ?_
  obtain ⟨as, R, ha, hD, k⟩ := h
  obtain ⟨t, h1, h2⟩ := hb cdv A outer s H E hr
  refine ⟨t, h1, h2 as R hD H _ Q (env_start ha (by rw [ha.length, hl as R hD]; exact hp)) k⟩
end
end Q3

namespace Q3
open PySem L2 Evl

/-! ## rules that name the written part (for a comprehension's block) -/
section
variable {X : Cx}
theorem ix_tupK (K : PySem.W.Frag) (h : X.K = K := by rfl) : IxR X (rIxT K) := h ▸ ix_tup
theorem ix_listK (K : PySem.W.Frag) (h : X.K = K := by rfl) : IxR X (rIxL K) := h ▸ ix_list
theorem op_eqDK (K : PySem.W.Frag) (hu : X.A.units + 64 < cLine) (h : X.K = K := by rfl) : OpR X (compareOp .Eq) (rEqD K) := h ▸ op_eqD hu
theorem op_neDK (K : PySem.W.Frag) (hu : X.A.units + 64 < cLine) (h : X.K = K := by rfl) : OpR X (compareOp .NotEq) (rNeD K) := h ▸ op_neD hu
theorem op_inDK (K : PySem.W.Frag) (hu : X.A.units + 65 < cLine) (h : X.K = K := by rfl) : OpR X (compareOp .In) (rInD K) := h ▸ op_inD hu
theorem op_notInDK (K : PySem.W.Frag) (hu : X.A.units + 65 < cLine) (h : X.K = K := by rfl) : OpR X (compareOp .NotIn) (rNotInD K) := h ▸ op_notInD hu
theorem op_in_seqK (K : PySem.W.Frag) (h : X.K = K := by rfl) : OpR X (compareOp .In) (rIn K false) := h ▸ op_in_seq
theorem op_notIn_seqK (K : PySem.W.Frag) (h : X.K = K := by rfl) : OpR X (compareOp .NotIn) (rIn K true) := h ▸ op_notIn_seq
theorem sl_tupAK (K : PySem.W.Frag) (h : X.K = K := by rfl) : SlR X (rSlA K) := h ▸ sl_tupA
theorem sl_listK (K : PySem.W.Frag) (h : X.K = K := by rfl) : SlR X (rSlL K) := h ▸ sl_list
theorem op_catAK (K : PySem.W.Frag) (h : X.K = K := by rfl) : OpR X (binaryOp .Add) (rCatA K) := h ▸ op_catA
theorem call_len_seqK (K : PySem.W.Frag) (h : X.K = K := by rfl) : CallR X (.builtin "len") (fun xs H Q => ∃ p ys, xs = [.ref p] ∧ (SqL K H p ys ∨ SqT K H p ys) ∧ Q (.int ys.length) H) := h ▸ call_len_seq
theorem call_tuple_ofK (K : PySem.W.Frag) (h : X.K = K := by rfl) : CallR X (.type "tuple") (fun xs H Q => ∃ p ys, xs = [.ref p] ∧ ((SqL K H p ys ∧ ∀ l, H l = none → Q (.ref l) (upd H l (.tup ys))) ∨ (SqT K H p ys ∧ Q (.ref p) H))) := h ▸ call_tuple_of
theorem pg_tupK (K : PySem.W.Frag) (n : Nat) {es : List Expr} {k : Nat} {t : TGs} {pos : Pos} (hc : X.calm = true) (h : PGs X es t) (hK : X.K = K := by rfl)
    (hn : (assignEach es X.env).length = n := by rfl) (hst : (assignEach es X.env).findIdx? (·.1) = none := by rfl) : PG X (.Tuple es k pos) (gTup K n t) := hK ▸ pg_tup hc h hn hst
end

/-! ## a field stored -/
section
variable {K : PySem.W.Frag} {te : TE} {Γ : List SD} {d : PyData} {ds : List PyData} {He H : Hp} {σ : L2.St} {G : List (V × SD)} {D : Ends} {tz : TS} {i : Nat} {p C dx : Addr} {fs : List (Str × V)} {f : Str}
theorem s_fld (E : Env K He H σ Γ G) (hx : Xd K te Γ d) (hσ : σ[i]? = some (some (.ref p))) (hp : H p = some (.ins C dx fs)) (c : Cls K C) (hn : NoAttr K C f) (hl : fs.length < 1000)
    (k : ∀ v H', Ex H H' → Tp H' v d → D.nx σ (upd H' p (.ins C dx (putF f v fs)))) : sFld K (tVar i) te f D σ H :=
  hx He H σ G E _ fun v H2 e t => ⟨_, hσ, p, C, dx, fs, rfl, e _ _ hp, c, hn, hl, k v H2 e t⟩
theorem s_fldL (E : Env K He H σ Γ G) (hx : Xl K te Γ ds) (hσ : σ[i]? = some (some (.ref p))) (hp : H p = some (.ins C dx fs)) (c : Cls K C) (hn : NoAttr K C f) (hl : fs.length < 1000)
    (k : ∀ a xs H', Ex H H' → H a = none → H' a = some (.lst xs) → TpAll H' xs ds → D.nx σ (upd H' p (.ins C dx (putF f (.ref a) fs)))) : sFld K (tVar i) te f D σ H :=
  hx He H σ G E _ fun a xs H2 e n l t => ⟨_, hσ, p, C, dx, fs, rfl, e _ _ hp, c, hn, hl, k a xs H2 e n l t⟩
theorem q_fld (E : Env K He H σ Γ G) (hx : Xd K te Γ d) (hσ : σ[i]? = some (some (.ref p))) (hp : H p = some (.ins C dx fs)) (c : Cls K C) (hn : NoAttr K C f) (hl : fs.length < 1000)
    (k : ∀ v H', Ex H H' → Tp H' v d → tz D σ (upd H' p (.ins C dx (putF f v fs)))) : tSeq (sFld K (tVar i) te f) tz D σ H := s_fld (D := { D with nx := tz D }) E hx hσ hp c hn hl k
theorem q_fldL (E : Env K He H σ Γ G) (hx : Xl K te Γ ds) (hσ : σ[i]? = some (some (.ref p))) (hp : H p = some (.ins C dx fs)) (c : Cls K C) (hn : NoAttr K C f) (hl : fs.length < 1000)
    (k : ∀ a xs H', Ex H H' → H a = none → H' a = some (.lst xs) → TpAll H' xs ds → tz D σ (upd H' p (.ins C dx (putF f (.ref a) fs)))) : tSeq (sFld K (tVar i) te f) tz D σ H := s_fldL (D := { D with nx := tz D }) E hx hσ hp c hn hl k
end
/-! ## whole numbers from 0 on -/
abbrev nat (n : Nat) : PyData := .int (n : Int)
section
variable {K : PySem.W.Frag} {Γ : List SD} {ta tb te tx : TE} {t u : TT} {d e : PyData} {ds es : List PyData} {a b : Nat}
theorem xd_addN (ha : Xd K ta Γ (nat a)) (hb : Xd K tb Γ (nat b)) : Xd K (tOp (rI0 fun i j => V.int (i + j)) ta tb) Γ (nat (a + b)) := xd_is (xd_II ha hb) rfl
theorem xd_subN (ha : Xd K ta Γ (nat a)) (hb : Xd K tb Γ (nat b)) (h : b ≤ a) : Xd K (tOp (rI0 fun i j => V.int (i - j)) ta tb) Γ (nat (a - b)) := xd_is (xd_II ha hb) (by
  show PyData.int ((a : Int) - (b : Int)) = PyData.int ((a - b : Nat) : Int)
  rw [Int.natCast_sub h])
theorem xd_mulN (ha : Xd K ta Γ (nat a)) (hb : Xd K tb Γ (nat b)) (h : a < 2 ^ 64 ∨ b < 2 ^ 64) : Xd K (tOp (rI CMul fun i j => V.int (i * j)) ta tb) Γ (nat (a * b)) :=
  xd_is (xd_C ha hb (h.imp (fun h => ⟨by omega, by omega⟩) fun h => ⟨by omega, by omega⟩)) (congrArg PyData.int (Int.natCast_mul a b).symm)
theorem xd_modN (ha : Xd K ta Γ (nat a)) (hb : Xd K tb Γ (nat b)) (h : 0 < b) : Xd K (tOp (rI (fun _ j => 0 < j) fun i j => V.int (i % j)) ta tb) Γ (nat (a % b)) :=
  xd_is (xd_C ha hb (by omega)) (congrArg PyData.int (Int.natCast_emod a b).symm)
theorem xd_divN (ha : Xd K ta Γ (nat a)) (hb : Xd K tb Γ (nat b)) (h : 0 < b ∧ b < 1073741824) : Xd K (tOp (rI CDiv fun i j => V.int (i / j)) ta tb) Γ (nat (a / b)) :=
  xd_is (xd_C ha hb ⟨by omega, by omega⟩) (congrArg PyData.int (Int.natCast_ediv a b).symm)
theorem dec_cast (a b : Nat) : decide ((a : Int) = (b : Int)) = decide (a = b) := by
  by_cases h : a = b
  · subst h
    simp
  · rw [decide_eq_false h, decide_eq_false (by omega)]
theorem xd_eqN (ha : Xd K ta Γ (nat a)) (hb : Xd K tb Γ (nat b)) : Xd K (tOp rEq ta tb) Γ (.bool (decide (a = b))) := xd_is (xd_eqI ha hb) (by rw [dec_cast])
theorem xd_neN (ha : Xd K ta Γ (nat a)) (hb : Xd K tb Γ (nat b)) : Xd K (tOp rNe ta tb) Γ (.bool (!decide (a = b))) := xd_is (xd_neI ha hb) (by rw [dec_cast])
theorem xd_ltN (ha : Xd K ta Γ (nat a)) (hb : Xd K tb Γ (nat b)) : Xd K (tOp (rI0 fun i j => V.bl (decide (i < j))) ta tb) Γ (.bool (decide (a < b))) := xd_is (xd_IB ha hb) (by
  by_cases h : a < b
  · rw [decide_eq_true h, decide_eq_true (by omega)]
  · rw [decide_eq_false h, decide_eq_false (by omega)])
theorem xd_gtN (ha : Xd K ta Γ (nat a)) (hb : Xd K tb Γ (nat b)) : Xd K (tOp (rI0 fun i j => V.bl (decide (j < i))) ta tb) Γ (.bool (decide (b < a))) := xd_is (xd_IB (g := fun i j => decide (j < i)) ha hb) (by
  by_cases h : b < a
  · rw [decide_eq_true h, decide_eq_true (by omega)]
  · rw [decide_eq_false h, decide_eq_false (by omega)])
theorem xd_leN (ha : Xd K ta Γ (nat a)) (hb : Xd K tb Γ (nat b)) : Xd K (tOp (rI0 fun i j => V.bl (decide (i ≤ j))) ta tb) Γ (.bool (decide (a ≤ b))) := xd_is (xd_IB ha hb) (by
  by_cases h : a ≤ b
  · rw [decide_eq_true h, decide_eq_true (by omega)]
  · rw [decide_eq_false h, decide_eq_false (by omega)])
theorem xd_geN (ha : Xd K ta Γ (nat a)) (hb : Xd K tb Γ (nat b)) : Xd K (tOp (rI0 fun i j => V.bl (decide (j ≤ i))) ta tb) Γ (.bool (decide (b ≤ a))) := xd_is (xd_IB (g := fun i j => decide (j ≤ i)) ha hb) (by
  by_cases h : b ≤ a
  · rw [decide_eq_true h, decide_eq_true (by omega)]
  · rw [decide_eq_false h, decide_eq_false (by omega)])
theorem xd_maxN (ha : Xd K ta Γ (nat a)) (hb : Xd K tb Γ (nat b)) : Xd K (tCB (fun xs H Q => ∃ i j, xs = [.int i, .int j] ∧ Q (.int (if j > i then j else i)) H) (tCons ta (tCons tb tNil))) Γ (nat (max a b)) := xd_is (xd_max2 ha hb) (by
  by_cases h : b > a
  · rw [if_pos (by omega), Nat.max_eq_right (by omega)]
  · rw [if_neg (by omega), Nat.max_eq_left (by omega)])
theorem xd_minN (ha : Xd K ta Γ (nat a)) (hb : Xd K tb Γ (nat b)) : Xd K (tCB (fun xs H Q => ∃ i j, xs = [.int i, .int j] ∧ Q (.int (if j < i then j else i)) H) (tCons ta (tCons tb tNil))) Γ (nat (min a b)) := xd_is (xd_min2 ha hb) (by
  by_cases h : b < a
  · rw [if_pos (by omega), Nat.min_eq_right (by omega)]
  · rw [if_neg (by omega), Nat.min_eq_left (by omega)])
theorem xd_intN {ta : TE} {b : Bool} (ha : Xd K ta Γ (.bool b)) : Xd K (tCB (fun xs H Q => (∃ i, xs = [.int i] ∧ Q (.int i) H) ∨ ∃ k, xs = [.bl k] ∧ Q (.int (if k then 1 else 0)) H) (tCons ta tNil)) Γ (nat (if b then 1 else 0)) := xd_is (xd_intB ha) (by cases b <;> rfl)
/-- t[i], xs[i], i from 0 on -/
theorem xd_at {n : Nat} (ha : Xd K ta Γ (.tuple ds)) (hb : Xd K tb Γ (nat n)) (h : ds[n]? = some d) : Xd K (tOp (rIxT K) ta tb) Γ d := xd_ixT ha hb rfl h
theorem xd_atL {n : Nat} (ha : Xr K ta Γ ds) (hb : Xd K tb Γ (nat n)) (h : ds[n]? = some d) : Xd K (tOp (rIxL K) ta tb) Γ d := xd_ixL ha hb rfl h
end
/-- a display's length -/
theorem lenk {ds : List PyData} (h : Nat.ble ds.length 100000 = true := by rfl) : ds.length ≤ 100000 := Nat.le_of_ble_eq_true h
theorem getmap {α β : Type} {l : List α} {f : α → β} {n : Nat} {x : α} (h : l[n]? = some x) : (l.map f)[n]? = some (f x) := by
  rw [List.getElem?_map, h]
  rfl
theorem of_getmap {α β : Type} {l : List α} {f : α → β} {n : Nat} {y : β} (h : (l.map f)[n]? = some y) : ∃ x, l[n]? = some x ∧ y = f x := by
  rw [List.getElem?_map] at h
  cases e : l[n]? with
  | none =>
    rw [e] at h
    cases h
  | some x =>
    rw [e] at h
    exact ⟨x, rfl, (Option.some.inj h).symm⟩
theorem hu65 {A : Around} {k : Nat} (hr : Room k A) : A.units + 65 < cLine := by
  have := hr.un
  omega

/-! ## walks over coded lists -/
theorem at_getD {α : Type} {l : List α} {m : Nat} (d : α) (h : m < l.length) : l[m]? = some (l.getD m d) := by
  rw [List.getD_eq_getElem?_getD, List.getElem?_eq_getElem h]
  rfl
theorem getD_of {α : Type} {l : List α} {m : Nat} {x : α} (d : α) (h : l[m]? = some x) : l.getD m d = x := by
  rw [List.getD_eq_getElem?_getD, h]
  rfl
theorem map_getD {α : Type} {l : List α} {f : α → PyData} {e : Nat → α → PyData} (d : α) (m : Nat) (y : PyData) (h : (l.map f)[m]? = some y) : f (l.getD m d) = y := by
  obtain ⟨x, hx, rfl⟩ := of_getmap h
  rw [getD_of d hx]
section
variable {K : PySem.W.Frag} {Γ : List SD} {tl : TE} {α : Type} {l : List α} {enc : α → PyData}
theorem xi_encT (d : α) (h : Xd K tl Γ (.tuple (l.map enc))) : Xi K (iTup K tl) Γ KpT l.length (fun m => enc (l.getD m d)) := by
  have z := xi_tup (K := K) (f := fun m => enc (l.getD m d)) h fun m y hy => map_getD (e := fun _ => enc) d m y hy
  rw [List.length_map] at z
  exact z
theorem xi_encR {i : Nat} (d : α) (h : Γ[i]? = some (.rdl (l.map enc))) : Xi K (iList K (tVar i)) Γ KpT l.length (fun m => enc (l.getD m d)) := by
  have z := xi_rdl (K := K) (f := fun m => enc (l.getD m d)) h fun m y hy => map_getD (e := fun _ => enc) d m y hy
  rw [List.length_map] at z
  exact z
theorem xi_encO {i : Nat} {a : Addr} (d : α) (h : Γ[i]? = some (.lst a (l.map enc))) : Xi K (iList K (tVar i)) Γ (fun Γ' => Γ'[i]? = some (.lst a (l.map enc))) l.length (fun m => enc (l.getD m d)) := by
  have z := xi_own (K := K) (f := fun m => enc (l.getD m d)) h fun m y hy => map_getD (e := fun _ => enc) d m y hy
  rw [List.length_map] at z
  exact z
theorem xi_encN (d : α) (h : Xl K tl Γ (l.map enc)) : Xi K (iList K tl) Γ KpT l.length (fun m => enc (l.getD m d)) := by
  have z := xi_new (K := K) (f := fun m => enc (l.getD m d)) h fun m y hy => map_getD (e := fun _ => enc) d m y hy
  rw [List.length_map] at z
  exact z
theorem xi_enumEO {i : Nat} {a : Addr} (d : α) (h : Γ[i]? = some (.lst a (l.map enc))) : Xi K (iEnum K (tCons (tVar i) tNil)) Γ (fun Γ' => Γ'[i]? = some (.lst a (l.map enc))) l.length (fun m => .tuple [nat m, enc (l.getD m d)]) := by
  have z := xi_enumO (K := K) (f := fun m => .tuple [nat m, enc (l.getD m d)]) h fun m y hy => by rw [map_getD (e := fun _ => enc) d m y hy]
  rw [List.length_map] at z
  exact z
theorem xi_enumER {i : Nat} (d : α) (h : Γ[i]? = some (.rdl (l.map enc))) : Xi K (iEnum K (tCons (tVar i) tNil)) Γ KpT l.length (fun m => .tuple [nat m, enc (l.getD m d)]) := by
  have z := xi_enumR (K := K) (f := fun m => .tuple [nat m, enc (l.getD m d)]) h fun m y hy => by rw [map_getD (e := fun _ => enc) d m y hy]
  rw [List.length_map] at z
  exact z
theorem xi_enumEN (d : α) (h : Xl K tl Γ (l.map enc)) : Xi K (iEnum K (tCons tl tNil)) Γ KpT l.length (fun m => .tuple [nat m, enc (l.getD m d)]) := by
  have z := xi_enumN (K := K) (f := fun m => .tuple [nat m, enc (l.getD m d)]) h fun m y hy => by rw [map_getD (e := fun _ => enc) d m y hy]
  rw [List.length_map] at z
  exact z
theorem xi_zipE {β : Type} {i j : Nat} {l' : List β} {enc' : β → PyData} (d : α) (d' : β) (h : Γ[i]? = some (.rdl (l.map enc))) (h' : Γ[j]? = some (.rdl (l'.map enc'))) (hl : l.length = l'.length) :
    Xi K (iZip K (tCons (tVar i) (tCons (tVar j) tNil))) Γ KpT l.length (fun m => .tuple [enc (l.getD m d), enc' (l'.getD m d')]) := by
  have z := xi_zipR (K := K) (f := fun m => .tuple [enc (l.getD m d), enc' (l'.getD m d')]) h h' (by rw [List.length_map, List.length_map, hl]) fun m y y' hy hy' => by
    rw [map_getD (e := fun _ => enc) d m y hy, map_getD (e := fun _ => enc') d' m y' hy']
  rw [List.length_map] at z
  exact z
end

/-! ## the data -/
structure Stp where
  w : Nat
  up : Bool
  tk : List Nat
  fl : List Nat
structure Gr where
  wires : List (Str × Str)
  steps : List Stp
  marks : Nat
  code : Nat
abbrev St2 := Nat × Nat
abbrev Row := Nat × Nat
abbrev Gate := List Row
abbrev NetW := Nat × List Gate × List Gate
abbrev Mv := Nat × Int
def encNs (l : List Nat) : PyData := .tuple (l.map nat)
def encS (s : Stp) : PyData := .tuple [nat s.w, .bool s.up, encNs s.tk, encNs s.fl]
def encW (w : Str × Str) : PyData := .tuple [.str w.1, .str w.2]
def encG (g : Gr) : PyData := .tuple [.tuple (g.wires.map encW), .tuple (g.steps.map encS), nat g.marks, nat g.code]
def encSt (s : St2) : PyData := .tuple [nat s.1, nat s.2]
def encR (r : Row) : PyData := .tuple [nat r.1, nat r.2]
def encGt (g : Gate) : PyData := .tuple (g.map encR)
def encGs (g : List Gate) : PyData := .tuple (g.map encGt)
def encNw (x : NetW) : PyData := .tuple [nat x.1, encGs x.2.1, encGs x.2.2]
def encN (n : List NetW) : PyData := .tuple (n.map encNw)
def encLv (l : List Bool) : PyData := .tuple (l.map PyData.bool)
def encDu (d : St2 × List Bool) : PyData := .tuple [encSt d.1, encLv d.2]
def wd : Nat → Str
  | 0 => "step"
  | 1 => "gate"
  | _ => "wire"
def encM (m : Mv) : PyData := .tuple [.str (wd m.1), .int m.2]
abbrev PGt := Nat × Bool × Gate
def encPG (g : PGt) : PyData := .tuple [nat g.1, .bool g.2.1, encGt g.2.2]
def encLG (g : PGt) : PyData := .tuple [nat g.1, .int (if g.2.1 then 1 else -1), encGt g.2.2]

def fitsM (r : Row) (c : Nat) : Bool := decide (c &&& r.1 = r.2)
def upM (g : Gate) (c : Nat) : Bool := g.any fun r => fitsM r c
def bitsM (l : List Nat) : Nat := l.foldl (fun n k => n ||| 1 <<< k) 0
def canM (s : Stp) (m : Nat) : Bool := decide (m &&& bitsM s.tk = bitsM s.tk)
def lev (c w : Nat) : Bool := decide (c >>> w &&& 1 = 1)
def safe (s : Stp) (st : St2) : Prop := lev st.2 s.w ≠ s.up ∧ (st.1 ^^^ bitsM s.tk) &&& bitsM s.fl = 0
def behM (s : Stp) (st : St2) : St2 := ((st.1 ^^^ bitsM s.tk) ||| bitsM s.fl, st.2 ^^^ 1 <<< s.w)
def gatesW (x : NetW) : List PGt := x.2.1.map (fun g => (x.1, true, g)) ++ x.2.2.map (fun g => (x.1, false, g))
def gatesM (n : List NetW) : List PGt := n.flatMap gatesW
def risM (z : List (PGt × Bool)) (w : Nat) : Bool := z.any fun p => decide (p.1.1 = w) && p.2 && p.1.2.1
def falM (z : List (PGt × Bool)) (w : Nat) : Bool := z.any fun p => decide (p.1.1 = w) && p.2 && !p.1.2.1
def wireM (gs : List PGt) (lv : List Bool) (c w : Nat) : Bool :=
  if c >>> w &&& 1 = 0 then risM (gs.zip lv) w && !falM (gs.zip lv) w else falM (gs.zip lv) w && !risM (gs.zip lv) w
def dfS : Stp := ⟨0, false, [], []⟩
def stp (g : Gr) (k : Nat) : Stp := g.steps.getD k dfS
def gat (gs : List PGt) (k : Nat) : Gate := (gs.getD k (0, false, [])).2.2
def calledG (gs : List PGt) (c : Nat) (lv : List Bool) : List Mv := ((List.range gs.length).filter fun g => lv.getD g false != upM (gat gs g) c).map fun g : Nat => ((1, (g : Int)) : Mv)
def calledW (n : List NetW) (gs : List PGt) (c : Nat) (lv : List Bool) : List Mv := (n.filter fun x => wireM gs lv c x.1).map fun x : NetW => ((2, (x.1 : Int)) : Mv)
def calledM (n : List NetW) (c : Nat) (lv : List Bool) : List Mv := calledG (gatesM n) c lv ++ calledW n (gatesM n) c lv
def kindOf (g : Gr) (k : Nat) : Str := (g.wires.getD (stp g k).w ("", "")).2
def stepsM (g : Gr) (m : Nat) : List Mv := ((List.range g.steps.length).filter fun k => decide (kindOf g k = "given") && canM (stp g k) m).map fun k : Nat => ((0, (k : Int)) : Mv)
def movesM (g : Gr) (n : List NetW) (d : St2 × List Bool) : List Mv := stepsM g d.1.1 ++ calledM n d.1.2 d.2
def wsM (g : Gr) (st : St2) (w k : Nat) : Bool := decide ((stp g k).w = w) && (decide ((stp g k).up = decide (st.2 >>> w &&& 1 = 0)) && canM (stp g k) st.1)
def wstepM (g : Gr) (st : St2) (w : Nat) : Option Nat := (List.range g.steps.length).find? (wsM g st w)
inductive Told where
  | non
  | astray (w : Int)
  | vanished (l : List Mv)
def lostM (n : List NetW) (d d' : St2 × List Bool) (m : Mv) : List Mv := (calledM n d.1.2 d.2).filter fun x => !decide (x = m) && !decide (x ∈ calledM n d'.1.2 d'.2)
def toldM (n : List NetW) (d d' : St2 × List Bool) (m : Mv) : Told := if lostM n d d' m = [] then .non else .vanished (lostM n d d' m)
/-- the move made: the new stand and levels, what is told -/
def goM (g : Gr) (n : List NetW) (d : St2 × List Bool) (m : Mv) : (St2 × List Bool) × Told :=
  if m.1 = 1 then ((d.1, d.2.set m.2.toNat (!d.2.getD m.2.toNat false)), toldM n d (d.1, d.2.set m.2.toNat (!d.2.getD m.2.toNat false)) m)
  else if m.1 = 0 then ((behM (stp g m.2.toNat) d.1, d.2), toldM n d (behM (stp g m.2.toNat) d.1, d.2) m)
  else match wstepM g d.1 m.2.toNat with
    | none => (d, .astray m.2)
    | some k => ((behM (stp g k) d.1, d.2), toldM n d (behM (stp g k) d.1, d.2) m)
def encO : Option Nat → PyData
  | none => .none
  | some k => nat k
end Q3

namespace Q3
open PySem L2 Evl
/-! ## the text by places -/
def top (i : Nat) : Stmt := PySem.Challenge.pw_calmwires_k62_one_move.main.body.getD i (.Pass ⟨0, 0, 0, 0⟩)
abbrev s_fits : Stmt := top 11
abbrev N_fits : List Str := ["row", "code"]
theorem sc_fits : FnScope N_fits ["row", "code"] (defScope s_fits) := ⟨rfl, rfl, rfl, by decide +kernel, rfl, by decide +kernel, by decide +kernel⟩
abbrev s_is_up : Stmt := top 12
abbrev N_is_up : List Str := ["gate", "code", "row"]
theorem sc_is_up : FnScope N_is_up ["gate", "code"] (defScope s_is_up) := ⟨rfl, rfl, rfl, by decide +kernel, rfl, by decide +kernel, by decide +kernel⟩
abbrev s_bits : Stmt := top 14
abbrev N_bits : List Str := ["some", "number", "k"]
theorem sc_bits : FnScope N_bits ["some"] (defScope s_bits) := ⟨rfl, rfl, rfl, by decide +kernel, rfl, by decide +kernel, by decide +kernel⟩
abbrev s_can : Stmt := top 16
abbrev N_can : List Str := ["graph", "stand", "step", "takes"]
theorem sc_can : FnScope N_can ["graph", "stand", "step"] (defScope s_can) := ⟨rfl, rfl, rfl, by decide +kernel, rfl, by decide +kernel, by decide +kernel⟩
abbrev s_behind : Stmt := top 17
abbrev N_behind : List Str := ["graph", "stand", "step", "wire", "up", "takes", "fills", "marks", "code", "left", "laid"]
theorem sc_behind : FnScope N_behind ["graph", "stand", "step"] (defScope s_behind) := ⟨rfl, rfl, rfl, by decide +kernel, rfl, by decide +kernel, by decide +kernel⟩
abbrev s_gates_of : Stmt := top 19
abbrev N_gates_of : List Str := ["net", "some", "wire", "rises", "falls", "gate"]
theorem sc_gates_of : FnScope N_gates_of ["net"] (defScope s_gates_of) := ⟨rfl, rfl, rfl, by decide +kernel, rfl, by decide +kernel, by decide +kernel⟩
abbrev s_wire_called : Stmt := top 20
abbrev N_wire_called : List Str := ["gates", "levels", "code", "wire", "rising", "falling", "one", "level"]
theorem sc_wire_called : FnScope N_wire_called ["gates", "levels", "code", "wire"] (defScope s_wire_called) := ⟨rfl, rfl, rfl, by decide +kernel, rfl, by decide +kernel, by decide +kernel⟩
abbrev s_step_for : Stmt := top 21
abbrev N_step_for : List Str := ["graph", "stand", "wire", "up", "step"]
theorem sc_step_for : FnScope N_step_for ["graph", "stand", "wire"] (defScope s_step_for) := ⟨rfl, rfl, rfl, by decide +kernel, rfl, by decide +kernel, by decide +kernel⟩
abbrev s_apart : Stmt := top 22
abbrev N_apart : List Str := ["net", "found", "wire", "rises", "falls"]
theorem sc_apart : FnScope N_apart ["net"] (defScope s_apart) := ⟨rfl, rfl, rfl, by decide +kernel, rfl, by decide +kernel, by decide +kernel⟩
abbrev s_rows_apart : Stmt := top 23
abbrev N_rows_apart : List Str := ["gates", "some", "gate", "row"]
theorem sc_rows_apart : FnScope N_rows_apart ["gates"] (defScope s_rows_apart) := ⟨rfl, rfl, rfl, by decide +kernel, rfl, by decide +kernel, by decide +kernel⟩
abbrev s_P_init : Stmt := inClass (top 24) 0
abbrev N_P_init : List Str := ["self", "graph", "net", "wire", "rise", "gate"]
theorem sc_P_init : FnScope N_P_init ["self", "graph", "net"] (defScope s_P_init) := ⟨rfl, rfl, rfl, by decide +kernel, rfl, by decide +kernel, by decide +kernel⟩
abbrev s_P_stand : Stmt := inClass (top 24) 1
abbrev N_P_stand : List Str := ["self"]
theorem sc_P_stand : FnScope N_P_stand ["self"] (defScope s_P_stand) := ⟨rfl, rfl, rfl, by decide +kernel, rfl, by decide +kernel, by decide +kernel⟩
abbrev s_P_level : Stmt := inClass (top 24) 2
abbrev N_P_level : List Str := ["self", "g"]
theorem sc_P_level : FnScope N_P_level ["self", "g"] (defScope s_P_level) := ⟨rfl, rfl, rfl, by decide +kernel, rfl, by decide +kernel, by decide +kernel⟩
abbrev s_P_called : Stmt := inClass (top 24) 3
abbrev N_P_called : List Str := ["self", "gates", "code", "some", "g", "wire", "rises", "falls"]
theorem sc_P_called : FnScope N_P_called ["self"] (defScope s_P_called) := ⟨rfl, rfl, rfl, by decide +kernel, rfl, by decide +kernel, by decide +kernel⟩
abbrev s_P_moves : Stmt := inClass (top 24) 4
abbrev N_P_moves : List Str := ["self", "some", "step"]
theorem sc_P_moves : FnScope N_P_moves ["self"] (defScope s_P_moves) := ⟨rfl, rfl, rfl, by decide +kernel, rfl, by decide +kernel, by decide +kernel⟩
abbrev s_P_go : Stmt := inClass (top 24) 5
abbrev N_P_go : List Str := ["self", "move", "ahead", "step", "now", "lost", "one"]
theorem sc_P_go : FnScope N_P_go ["self", "move"] (defScope s_P_go) := ⟨rfl, rfl, rfl, by decide +kernel, rfl, by decide +kernel, by decide +kernel⟩
abbrev s_P_twin : Stmt := inClass (top 24) 6
abbrev N_P_twin : List Str := ["self", "other"]
theorem sc_P_twin : FnScope N_P_twin ["self"] (defScope s_P_twin) := ⟨rfl, rfl, rfl, by decide +kernel, rfl, by decide +kernel, by decide +kernel⟩
abbrev s_l_mix : Stmt := top 26
abbrev N_l_mix : List Str := ["_law_script", "_law_k", "_law_number"]
theorem sc_l_mix : FnScope N_l_mix ["_law_script", "_law_k"] (defScope s_l_mix) := ⟨rfl, rfl, rfl, by decide +kernel, rfl, by decide +kernel, by decide +kernel⟩
abbrev s_l_word : Stmt := top 27
abbrev N_l_word : List Str := ["_law_cell", "_law_k", "_law_letters", "_law_size", "_law_at", "_law_word_here", "_law_j", "_law_shift"]
theorem sc_l_word : FnScope N_l_word ["_law_cell", "_law_k"] (defScope s_l_word) := ⟨rfl, rfl, rfl, by decide +kernel, rfl, by decide +kernel, by decide +kernel⟩
abbrev s_l_order : Stmt := top 28
abbrev N_l_order : List Str := ["_law_script", "_law_first", "_law_n", "_law_order_here", "_law_w", "_law_cell", "_law_at", "_law_far"]
theorem sc_l_order : FnScope N_l_order ["_law_script", "_law_first", "_law_n"] (defScope s_l_order) := ⟨rfl, rfl, rfl, by decide +kernel, rfl, by decide +kernel, by decide +kernel⟩
abbrev s_l_arrows : Stmt := top 29
abbrev N_l_arrows : List Str := ["_law_script", "_law_first", "_law_many", "_law_size", "_law_pairs", "_law_k", "_law_cell", "_law_i", "_law_j"]
theorem sc_l_arrows : FnScope N_l_arrows ["_law_script", "_law_first", "_law_many", "_law_size"] (defScope s_l_arrows) := ⟨rfl, rfl, rfl, by decide +kernel, rfl, by decide +kernel, by decide +kernel⟩
abbrev s_l_graph : Stmt := top 30
abbrev N_l_graph : List Str := ["_law_script", "_law_first", "_law_n", "_law_many", "_law_order_here", "_law_size", "_law_cell", "_law_pairs", "_law_w", "_law_one", "_law_two", "_law_takes", "_law_fills", "_law_marks", "_law_spots", "_law_i", "_law_j", "_law_code", "_law_seen", "_law_steps", "_law_d", "_law_turn", "_law_word_here", "_law_wires", "_law_k", "_law_pair"]
theorem sc_l_graph : FnScope N_l_graph ["_law_script", "_law_first", "_law_n", "_law_many"] (defScope s_l_graph) := ⟨rfl, rfl, rfl, by decide +kernel, rfl, by decide +kernel, by decide +kernel⟩
abbrev s_l_can : Stmt := top 31
abbrev N_l_can : List Str := ["_law_graph_here", "_law_stand", "_law_step", "_law_takes", "_law_spot"]
theorem sc_l_can : FnScope N_l_can ["_law_graph_here", "_law_stand", "_law_step"] (defScope s_l_can) := ⟨rfl, rfl, rfl, by decide +kernel, rfl, by decide +kernel, by decide +kernel⟩
abbrev s_l_behind : Stmt := top 32
abbrev N_l_behind : List Str := ["_law_graph_here", "_law_stand", "_law_step", "_law_wire", "_law_up_here", "_law_takes", "_law_fills", "_law_marks", "_law_spot"]
theorem sc_l_behind : FnScope N_l_behind ["_law_graph_here", "_law_stand", "_law_step"] (defScope s_l_behind) := ⟨rfl, rfl, rfl, by decide +kernel, rfl, by decide +kernel, by decide +kernel⟩
abbrev s_l_stands : Stmt := top 33
abbrev N_l_stands : List Str := ["_law_graph_here", "_law_some", "_law_seen", "_law_at", "_law_step", "_law_there"]
theorem sc_l_stands : FnScope N_l_stands ["_law_graph_here"] (defScope s_l_stands) := ⟨rfl, rfl, rfl, by decide +kernel, rfl, by decide +kernel, by decide +kernel⟩
abbrev s_l_want : Stmt := top 34
abbrev N_l_want : List Str := ["_law_graph_here", "_law_stand", "_law_wire", "_law_step"]
theorem sc_l_want : FnScope N_l_want ["_law_graph_here", "_law_stand", "_law_wire"] (defScope s_l_want) := ⟨rfl, rfl, rfl, by decide +kernel, rfl, by decide +kernel, by decide +kernel⟩
abbrev s_l_choice : Stmt := top 35
abbrev N_l_choice : List Str := ["_law_script", "_law_first", "_law_head", "_law_many", "_law_own", "_law_least", "_law_wires", "_law_steps", "_law_spots", "_law_k", "_law_cell", "_law_chain", "_law_back", "_law_both", "_law_last", "_law_at", "_law_deed", "_law_fill", "_law_j", "_law_wire"]
theorem sc_l_choice : FnScope N_l_choice ["_law_script", "_law_first"] (defScope s_l_choice) := ⟨rfl, rfl, rfl, by decide +kernel, rfl, by decide +kernel, by decide +kernel⟩
abbrev s_l_wider : Stmt := top 36
abbrev N_l_wider : List Str := ["_law_graph_here", "_law_at", "_law_kind", "_law_up_here", "_law_word_here", "_law_wires", "_law_steps", "_law_marks", "_law_code", "_law_low", "_law_rows", "_law_wire", "_law_rise", "_law_takes", "_law_fills"]
theorem sc_l_wider : FnScope N_l_wider ["_law_graph_here", "_law_at", "_law_kind", "_law_up_here", "_law_word_here"] (defScope s_l_wider) := ⟨rfl, rfl, rfl, by decide +kernel, rfl, by decide +kernel, by decide +kernel⟩
abbrev s_l_lookers : Stmt := top 37
abbrev N_l_lookers : List Str := ["_law_graph_here", "_law_cell", "_law_there", "_law_wire", "_law_up_here", "_law_takes", "_law_fills", "_law_spot", "_law_steps", "_law_k", "_law_step", "_law_p"]
theorem sc_l_lookers : FnScope N_l_lookers ["_law_graph_here", "_law_cell"] (defScope s_l_lookers) := ⟨rfl, rfl, rfl, by decide +kernel, rfl, by decide +kernel, by decide +kernel⟩
abbrev s_l_any_graph : Stmt := top 38
abbrev N_l_any_graph : List Str := ["_law_script", "_law_first", "_law_most", "_law_arrows_here", "_law_cell", "_law_graph_here", "_law_more", "_law_gone_here", "_law_many", "_law_k", "_law_at", "_law_kind"]
theorem sc_l_any_graph : FnScope N_l_any_graph ["_law_script", "_law_first", "_law_most", "_law_arrows_here"] (defScope s_l_any_graph) := ⟨rfl, rfl, rfl, by decide +kernel, rfl, by decide +kernel, by decide +kernel⟩
abbrev s_l_gates : Stmt := top 39
abbrev N_l_gates : List Str := ["_law_net", "_law_some", "_law_wire", "_law_rises", "_law_falls", "_law_gate"]
theorem sc_l_gates : FnScope N_l_gates ["_law_net"] (defScope s_l_gates) := ⟨rfl, rfl, rfl, by decide +kernel, rfl, by decide +kernel, by decide +kernel⟩
abbrev s_l_up : Stmt := top 40
abbrev N_l_up : List Str := ["_law_gate", "_law_code", "_law_row"]
theorem sc_l_up : FnScope N_l_up ["_law_gate", "_law_code"] (defScope s_l_up) := ⟨rfl, rfl, rfl, by decide +kernel, rfl, by decide +kernel, by decide +kernel⟩
abbrev s_l_called : Stmt := top 41
abbrev N_l_called : List Str := ["_law_net", "_law_code", "_law_levels", "_law_gates_here", "_law_some", "_law_wire", "_law_rises", "_law_falls", "_law_ways", "_law_mode", "_law_g", "_law_one", "_law_level"]
theorem sc_l_called : FnScope N_l_called ["_law_net", "_law_code", "_law_levels"] (defScope s_l_called) := ⟨rfl, rfl, rfl, by decide +kernel, rfl, by decide +kernel, by decide +kernel⟩
abbrev s_l_moves : Stmt := top 42
abbrev N_l_moves : List Str := ["_law_graph_here", "_law_net", "_law_play", "_law_some", "_law_step"]
theorem sc_l_moves : FnScope N_l_moves ["_law_graph_here", "_law_net", "_law_play"] (defScope s_l_moves) := ⟨rfl, rfl, rfl, by decide +kernel, rfl, by decide +kernel, by decide +kernel⟩
abbrev s_l_wire_step : Stmt := top 43
abbrev N_l_wire_step : List Str := ["_law_graph_here", "_law_stand", "_law_wire", "_law_step", "_law_own", "_law_up_here", "_law_takes", "_law_fills"]
theorem sc_l_wire_step : FnScope N_l_wire_step ["_law_graph_here", "_law_stand", "_law_wire"] (defScope s_l_wire_step) := ⟨rfl, rfl, rfl, by decide +kernel, rfl, by decide +kernel, by decide +kernel⟩
abbrev s_l_gone : Stmt := top 44
abbrev N_l_gone : List Str := ["_law_graph_here", "_law_net", "_law_play", "_law_move", "_law_stand", "_law_levels", "_law_at", "_law_step", "_law_ahead", "_law_now", "_law_lost", "_law_one"]
theorem sc_l_gone : FnScope N_l_gone ["_law_graph_here", "_law_net", "_law_play", "_law_move"] (defScope s_l_gone) := ⟨rfl, rfl, rfl, by decide +kernel, rfl, by decide +kernel, by decide +kernel⟩
abbrev s_l_begun : Stmt := top 45
abbrev N_l_begun : List Str := ["_law_graph_here", "_law_net", "_law_one"]
theorem sc_l_begun : FnScope N_l_begun ["_law_graph_here", "_law_net"] (defScope s_l_begun) := ⟨rfl, rfl, rfl, by decide +kernel, rfl, by decide +kernel, by decide +kernel⟩
abbrev s_l_any_gate : Stmt := top 46
abbrev N_l_any_gate : List Str := ["_law_script", "_law_first", "_law_graph_here", "_law_some", "_law_want_here", "_law_wire", "_law_rows", "_law_full", "_law_cell", "_law_k", "_law_stand", "_law_bit", "_law_care"]
theorem sc_l_any_gate : FnScope N_l_any_gate ["_law_script", "_law_first", "_law_graph_here", "_law_some", "_law_want_here", "_law_wire"] (defScope s_l_any_gate) := ⟨rfl, rfl, rfl, by decide +kernel, rfl, by decide +kernel, by decide +kernel⟩
abbrev s_l_any_net : Stmt := top 47
abbrev N_l_any_net : List Str := ["_law_script", "_law_first", "_law_graph_here", "_law_some", "_law_net", "_law_wire", "_law_both", "_law_want_here", "_law_cell", "_law_gate", "_law_gates_here"]
theorem sc_l_any_net : FnScope N_l_any_net ["_law_script", "_law_first", "_law_graph_here", "_law_some"] (defScope s_l_any_net) := ⟨rfl, rfl, rfl, by decide +kernel, rfl, by decide +kernel, by decide +kernel⟩
abbrev s_l_same : Stmt := top 48
abbrev N_l_same : List Str := ["_law_play", "_law_graph_here", "_law_net", "_law_due", "_law_levels", "_law_g"]
theorem sc_l_same : FnScope N_l_same ["_law_play", "_law_graph_here", "_law_net", "_law_due"] (defScope s_l_same) := ⟨rfl, rfl, rfl, by decide +kernel, rfl, by decide +kernel, by decide +kernel⟩
abbrev s_l_refused : Stmt := top 49
abbrev N_l_refused : List Str := ["_law_play", "_law_move", "_law_told", "e"]
theorem sc_l_refused : FnScope N_l_refused ["_law_play", "_law_move"] (defScope s_l_refused) := ⟨rfl, rfl, rfl, by decide +kernel, rfl, by decide +kernel, by decide +kernel⟩
abbrev s_l_within : Stmt := top 50
abbrev N_l_within : List Str := ["_law_net", "_law_total", "_law_wire", "_law_rises", "_law_falls", "_law_many", "_law_gate"]
theorem sc_l_within : FnScope N_l_within ["_law_net"] (defScope s_l_within) := ⟨rfl, rfl, rfl, by decide +kernel, rfl, by decide +kernel, by decide +kernel⟩
abbrev s_l_others : Stmt := top 51
abbrev N_l_others : List Str := ["_law_graph_here", "_law_net", "_law_moves_here", "_law_far", "_law_many", "_law_numbers", "_law_some", "_law_move", "_law_step", "_law_g", "_law_wire"]
theorem sc_l_others : FnScope N_l_others ["_law_graph_here", "_law_net", "_law_moves_here", "_law_far"] (defScope s_l_others) := ⟨rfl, rfl, rfl, by decide +kernel, rfl, by decide +kernel, by decide +kernel⟩
abbrev s_l_moved : Stmt := top 52
abbrev N_l_moved : List Str := ["_law_play", "_law_graph_here", "_law_net", "_law_due", "_law_cell", "_law_moves_here", "_law_others_here", "_law_move", "_law_gone_to", "_law_told", "_law_answer"]
theorem sc_l_moved : FnScope N_l_moved ["_law_play", "_law_graph_here", "_law_net", "_law_due", "_law_cell"] (defScope s_l_moved) := ⟨rfl, rfl, rfl, by decide +kernel, rfl, by decide +kernel, by decide +kernel⟩
abbrev s_law : Stmt := top 53
abbrev N_law : List Str := ["_law_script", "_law_graph_here", "_law_net", "_law_play", "_law_due", "_law_turns", "_law_apart_at", "_law_other", "_law_far", "_law_turn"]
theorem sc_law : FnScope N_law ["_law_script"] (defScope s_law) := ⟨rfl, rfl, rfl, by decide +kernel, rfl, by decide +kernel, by decide +kernel⟩
/-! ## what the top has written -/
structure Dfn (K : PySem.W.Frag) (mg : Str → Option Value) (x : Str) (st : Stmt) (ps : List Str) (f : Addr) (fd : FuncData) : Prop where
  F : Fun K x x st f fd
  m : mg x = some (.ref f)
  b : Binds K fd ps []
structure Mtd (K : PySem.W.Frag) (x qual : Str) (st : Stmt) (ps : List Str) (f : Addr) (fd : FuncData) : Prop where
  F : Fun K x qual st f fd
  b : Binds K fd ps []
structure Top (K : PySem.W.Frag) (mg : Str → Option Value) (C : Addr) (f : Nat → Addr) (fd : Nat → FuncData) (xc : Nat → Addr) : Prop where
  cl : Cls K C
  aG : NoAttr K C "graph"
  aN : NoAttr K C "net"
  aH : NoAttr K C "here"
  aL : NoAttr K C "levels"
  mkC : Mk K C (f 10)
  gC : mg "Play" = some (.ref C)
  g0 : mg "CalmError" = some (.ref (xc 0))
  g1 : mg "NoText" = some (.ref (xc 1))
  g2 : mg "Broken" = some (.ref (xc 2))
  g3 : mg "Crowded" = some (.ref (xc 3))
  g4 : mg "TooMany" = some (.ref (xc 4))
  g5 : mg "CalledOff" = some (.ref (xc 5))
  g6 : mg "Clash" = some (.ref (xc 6))
  g7 : mg "NoMove" = some (.ref (xc 7))
  g8 : mg "NoPlace" = some (.ref (xc 8))
  xN : PySem.W.excIn K (xc 7) [.type "ValueError", .type "Exception", .type "BaseException", .type "object"] "ValueError.__new__" = true
  kN : PySem.W.keepIn K (.ref (xc 7)) = true
  bN : PySem.W.subIn K (.ref (xc 7)) (.type "BaseException") = some true
  tN : PySem.W.typeIn K (.ref (xc 7)) = some (.type "type")
  eN : PySem.W.exmOne K (.ref (xc 7)) (.ref (xc 7)) = some true
  cN : ExcC K (xc 7)
  iC : PySem.W.kitOne K (.ref (xc 7)) (.ref (xc 0)) = some true
  iV : PySem.W.kitOne K (.ref (xc 7)) (.type "ValueError") = some true
  iA : PySem.W.kitAny K (.ref (xc 7)) [.ref (xc 2), .ref (xc 5), .ref (xc 6), .ref (xc 3), .ref (xc 8), .ref (xc 1), .ref (xc 4)] = some false
  n_ValueError : mg "ValueError" = none
  n_enumerate : mg "enumerate" = none
  n_int : mg "int" = none
  n_isinstance : mg "isinstance" = none
  n_len : mg "len" = none
  n_list : mg "list" = none
  n_max : mg "max" = none
  n_min : mg "min" = none
  n_range : mg "range" = none
  n_sorted : mg "sorted" = none
  n_sum : mg "sum" = none
  n_tuple : mg "tuple" = none
  n_zip : mg "zip" = none
  fits : Dfn K mg "fits" s_fits ["row", "code"] (f 0) (fd 0)
  is_up : Dfn K mg "is_up" s_is_up ["gate", "code"] (f 1) (fd 1)
  bits : Dfn K mg "bits" s_bits ["some"] (f 2) (fd 2)
  can : Dfn K mg "can" s_can ["graph", "stand", "step"] (f 3) (fd 3)
  behind : Dfn K mg "behind" s_behind ["graph", "stand", "step"] (f 4) (fd 4)
  gates_of : Dfn K mg "gates_of" s_gates_of ["net"] (f 5) (fd 5)
  wire_called : Dfn K mg "wire_called" s_wire_called ["gates", "levels", "code", "wire"] (f 6) (fd 6)
  step_for : Dfn K mg "step_for" s_step_for ["graph", "stand", "wire"] (f 7) (fd 7)
  apart : Dfn K mg "apart" s_apart ["net"] (f 8) (fd 8)
  rows_apart : Dfn K mg "rows_apart" s_rows_apart ["gates"] (f 9) (fd 9)
  P_init : Mtd K "__init__" "Play.__init__" s_P_init ["self", "graph", "net"] (f 10) (fd 10)
  P_stand : Mtd K "stand" "Play.stand" s_P_stand ["self"] (f 11) (fd 11)
  P_stand_m : Meth K C "stand" (f 11)
  P_level : Mtd K "level" "Play.level" s_P_level ["self", "g"] (f 12) (fd 12)
  P_level_m : Meth K C "level" (f 12)
  P_called : Mtd K "called" "Play.called" s_P_called ["self"] (f 13) (fd 13)
  P_called_m : Meth K C "called" (f 13)
  P_moves : Mtd K "moves" "Play.moves" s_P_moves ["self"] (f 14) (fd 14)
  P_moves_m : Meth K C "moves" (f 14)
  P_go : Mtd K "go" "Play.go" s_P_go ["self", "move"] (f 15) (fd 15)
  P_go_m : Meth K C "go" (f 15)
  P_twin : Mtd K "twin" "Play.twin" s_P_twin ["self"] (f 16) (fd 16)
  P_twin_m : Meth K C "twin" (f 16)
  l_mix : Dfn K mg "_law_mix" s_l_mix ["_law_script", "_law_k"] (f 17) (fd 17)
  l_word : Dfn K mg "_law_word" s_l_word ["_law_cell", "_law_k"] (f 18) (fd 18)
  l_order : Dfn K mg "_law_order" s_l_order ["_law_script", "_law_first", "_law_n"] (f 19) (fd 19)
  l_arrows : Dfn K mg "_law_arrows" s_l_arrows ["_law_script", "_law_first", "_law_many", "_law_size"] (f 20) (fd 20)
  l_graph : Dfn K mg "_law_graph" s_l_graph ["_law_script", "_law_first", "_law_n", "_law_many"] (f 21) (fd 21)
  l_can : Dfn K mg "_law_can" s_l_can ["_law_graph_here", "_law_stand", "_law_step"] (f 22) (fd 22)
  l_behind : Dfn K mg "_law_behind" s_l_behind ["_law_graph_here", "_law_stand", "_law_step"] (f 23) (fd 23)
  l_stands : Dfn K mg "_law_stands" s_l_stands ["_law_graph_here"] (f 24) (fd 24)
  l_want : Dfn K mg "_law_want" s_l_want ["_law_graph_here", "_law_stand", "_law_wire"] (f 25) (fd 25)
  l_choice : Dfn K mg "_law_choice" s_l_choice ["_law_script", "_law_first"] (f 26) (fd 26)
  l_wider : Dfn K mg "_law_wider" s_l_wider ["_law_graph_here", "_law_at", "_law_kind", "_law_up_here", "_law_word_here"] (f 27) (fd 27)
  l_lookers : Dfn K mg "_law_lookers" s_l_lookers ["_law_graph_here", "_law_cell"] (f 28) (fd 28)
  l_any_graph : Dfn K mg "_law_any_graph" s_l_any_graph ["_law_script", "_law_first", "_law_most", "_law_arrows_here"] (f 29) (fd 29)
  l_gates : Dfn K mg "_law_gates" s_l_gates ["_law_net"] (f 30) (fd 30)
  l_up : Dfn K mg "_law_up" s_l_up ["_law_gate", "_law_code"] (f 31) (fd 31)
  l_called : Dfn K mg "_law_called" s_l_called ["_law_net", "_law_code", "_law_levels"] (f 32) (fd 32)
  l_moves : Dfn K mg "_law_moves" s_l_moves ["_law_graph_here", "_law_net", "_law_play"] (f 33) (fd 33)
  l_wire_step : Dfn K mg "_law_wire_step" s_l_wire_step ["_law_graph_here", "_law_stand", "_law_wire"] (f 34) (fd 34)
  l_gone : Dfn K mg "_law_gone" s_l_gone ["_law_graph_here", "_law_net", "_law_play", "_law_move"] (f 35) (fd 35)
  l_begun : Dfn K mg "_law_begun" s_l_begun ["_law_graph_here", "_law_net"] (f 36) (fd 36)
  l_any_gate : Dfn K mg "_law_any_gate" s_l_any_gate ["_law_script", "_law_first", "_law_graph_here", "_law_some", "_law_want_here", "_law_wire"] (f 37) (fd 37)
  l_any_net : Dfn K mg "_law_any_net" s_l_any_net ["_law_script", "_law_first", "_law_graph_here", "_law_some"] (f 38) (fd 38)
  l_same : Dfn K mg "_law_same" s_l_same ["_law_play", "_law_graph_here", "_law_net", "_law_due"] (f 39) (fd 39)
  l_refused : Dfn K mg "_law_refused" s_l_refused ["_law_play", "_law_move"] (f 40) (fd 40)
  l_within : Dfn K mg "_law_within" s_l_within ["_law_net"] (f 41) (fd 41)
  l_others : Dfn K mg "_law_others" s_l_others ["_law_graph_here", "_law_net", "_law_moves_here", "_law_far"] (f 42) (fd 42)
  l_moved : Dfn K mg "_law_moved" s_l_moved ["_law_play", "_law_graph_here", "_law_net", "_law_due", "_law_cell"] (f 43) (fd 43)
  law : Dfn K mg "law" s_law ["_law_script"] (f 44) (fd 44)
end Q3

namespace Q3
open PySem L2 Evl
/-! ## the program's plain defs: fits, is_up, bits, can, behind -/
def D_fits : List SD → Res → Prop := fun as R => ∃ (r : Row) (c : Nat), as = [.dat (encR r), .dat (nat c)] ∧ R = RD (.bool (fitsM r c))
def D_is_up : List SD → Res → Prop := fun as R => ∃ (g : Gate) (c : Nat), as = [.dat (encGt g), .dat (nat c)] ∧ R = RD (.bool (upM g c))
def D_bits : List SD → Res → Prop := fun as R => ∃ (l : List Nat), as = [.dat (encNs l)] ∧ (∀ x ∈ l, x < 1000000) ∧ R = RD (nat (bitsM l))
def spots (s : Stp) : Prop := (∀ x ∈ s.tk, x < 1000000) ∧ (∀ x ∈ s.fl, x < 1000000) ∧ s.w < 1000000 ∧ s.tk.Nodup
def D_can : List SD → Res → Prop := fun as R => ∃ (g : Gr) (st : St2) (k : Nat) (s : Stp), as = [.dat (encG g), .dat (encSt st), .dat (nat k)] ∧ g.steps[k]? = some s ∧ spots s ∧ R = RD (.bool (canM s st.1))
def D_behind : List SD → Res → Prop := fun as R => ∃ (g : Gr) (st : St2) (k : Nat) (s : Stp), as = [.dat (encG g), .dat (encSt st), .dat (nat k)] ∧ g.steps[k]? = some s ∧ spots s ∧ safe s st ∧ R = RD (encSt (behM s st))
section
variable {P : Program} {w : World} {K : PySem.W.Frag} {mg : Str → Option Value} {base : Heap} {C : Addr} {f : Nat → Addr} {fd : Nat → FuncData} {xc : Nat → Addr}
theorem ok_fits (T : Top K mg C f fd xc) : FnOk P w K mg base CX0 1 (f 0) (fd 0) ["row", "code"] (spG K D_fits) := by
  refine Fun.pure T.fits.F sc_fits (fun as R hD => ?_) (by decide) fun cdv A outer s H E hr => ⟨_, (pss_one (ps_ret (pe_cmpR op_eq (pe_op op_and (pv 1) (pe_ix ix_tup (pv 0) pe_int (fun _ _ => rfl))) (pe_ix ix_tup (pv 0) pe_int (fun _ _ => rfl)) (nomark _)))), fun as R hD He σ Q E k => ?_⟩
  · obtain ⟨r, c, rfl, _⟩ := hD
    rfl
  · obtain ⟨r, c, rfl, rfl⟩ := hD
    refine s_ret E (xd_eqN (xd_and (xd_var rfl) (xd_at (xd_var rfl) xd_int rfl)) (xd_at (xd_var rfl) xd_int rfl)) k
theorem ok_is_up (T : Top K mg C f fd xc) : FnOk P w K mg base CX0 2 (f 1) (fd 1) ["gate", "code"] (spG K D_is_up) := by
  refine Fun.pure T.is_up.F sc_is_up (fun as R hD => ?_) (by decide) fun cdv A outer s H E hr => ⟨_, (pss_cons (ps_for PassesOwn.never rfl (pi_tup (pv 0)) (pg_name (i := 2) sc_is_up.nd rfl (Or.inl rfl))
  (pss_one (ps_if (pt_val (pe_call (ok_fits T) (hr.mono (by decide)) (by rfl) T.fits.m T.fits.F.kp T.fits.b .nil pass0 (pa_cons (pv 2) (pa_cons (pv 1) pa_nil)))) (pss_one (ps_ret pe_bl)) pss_nil)))
  (pss_one (ps_ret pe_bl))), fun as R hD He σ Q E k => ?_⟩
  · obtain ⟨r, c, rfl, _⟩ := hD
    rfl
  · obtain ⟨g, c, rfl, rfl⟩ := hD
    refine q_for (S := Unit) (fun m _ => (g.take m).any (fun r => fitsM r c) = false) (fun m _ => [.dat (encGt g), .dat (nat c), .any]) () E (xi_tup (f := fun m => encR (g.getD m (0, 0))) (xd_var rfl) ?_) (by simp) (.refl _) (fun _ _ _ _ => trivial) (fun m hm => gok_name) (fun G m s σ H hm is E => ?_) (fun s σ H is E => ?_)
    · intro m d h
      obtain ⟨x, hx, rfl⟩ := of_getmap h
      rw [List.getD_eq_getElem?_getD, hx]
      rfl
    · rw [List.length_map] at hm
      have hx : g[m]? = some (g.getD m (0, 0)) := by rw [List.getD_eq_getElem?_getD, List.getElem?_eq_getElem hm]; rfl
      refine s_if E (xt_B (xd_call (D := D_fits) (xa_d (xd_var rfl) (xa_d (xd_var rfl) xa_nil)) ⟨_, _, rfl, rfl⟩)) (fun hb H e E => ?_) (fun hb H e E => ?_)
      · have z : upM g c = true := List.any_eq_true.mpr ⟨_, List.mem_of_getElem? hx, hb⟩
        rw [z] at k
        refine s_ret E xd_bl k
      · refine ⟨(), ?_, E.wk (.same (.same (.drop .nil)))⟩
        rw [filt_take hx, List.any_append, is]
        simpa using hb
    · rw [List.length_map, List.take_length] at is
      have z : upM g c = false := is
      rw [z] at k
      refine s_ret E xd_bl k
theorem bits_more {l : List Nat} {m x : Nat} (h : l[m]? = some x) : bitsM (l.take (m + 1)) = bitsM (l.take m) ||| 1 <<< x := by
  unfold bitsM
  rw [filt_take h, List.foldl_append]
  rfl
theorem ok_bits (T : Top K mg C f fd xc) : FnOk P w K mg base CX0 1 (f 2) (fd 2) ["some"] (spG K D_bits) := by
  refine Fun.pure T.bits.F sc_bits (fun as R hD => ?_) (by decide) fun cdv A outer s H E hr => ⟨_, (pss_cons (ps_set (i := 1) sc_bits.nd rfl (Or.inl rfl) pe_int)
  (pss_cons (ps_for PassesOwn.never rfl (pi_tup (pv 0)) (pg_name (i := 2) sc_bits.nd rfl (Or.inl rfl))
  (pss_one (ps_set (i := 1) sc_bits.nd rfl (Or.inl rfl) (pe_op op_or (pv 1) (pe_op op_shl pe_int (pv 2))))))
  (pss_one (ps_ret (pv 1))))), fun as R hD He σ Q E k => ?_⟩
  · obtain ⟨r, rfl, _⟩ := hD
    rfl
  · obtain ⟨l, rfl, hl, rfl⟩ := hD
    refine q_set E xd_int fun σ H e E => ?_
    refine q_for (S := Unit) (fun m _ => True) (fun m _ => [.dat (encNs l), .dat (nat (bitsM (l.take m))), .any]) () E (xi_tup (f := fun m => nat (l.getD m 0)) (xd_var rfl) ?_) trivial (.refl _) (fun _ _ _ _ => trivial) (fun m hm => gok_name) (fun G m s σ H hm is E => ?_) (fun s σ H is E => ?_)
    · intro m d h
      obtain ⟨x, hx, rfl⟩ := of_getmap h
      rw [List.getD_eq_getElem?_getD, hx]
      rfl
    · rw [List.length_map] at hm
      have hx : l[m]? = some (l.getD m 0) := by rw [List.getD_eq_getElem?_getD, List.getElem?_eq_getElem hm]; rfl
      have hlt := hl _ (List.mem_of_getElem? hx)
      refine s_set E (xd_or (xd_var rfl) (xd_shl1 xd_int (xd_var rfl) (by omega))) fun σ H e E => ⟨(), trivial, ?_⟩
      rw [bits_more hx]
      exact E.wk (.same (.same (.drop .nil)))
    · rw [List.length_map, List.take_length] at E
      refine s_ret E (xd_var rfl) k
theorem ok_can (T : Top K mg C f fd xc) : FnOk P w K mg base CX0 2 (f 3) (fd 3) ["graph", "stand", "step"] (spG K D_can) := by
  refine Fun.pure T.can.F sc_can (fun as R hD => ?_) (by decide) fun cdv A outer s H E hr => ⟨_, (pss_cons (ps_set (i := 3) sc_can.nd rfl (Or.inl rfl) (pe_call (ok_bits T) (hr.mono (by decide)) (by rfl) T.bits.m T.bits.F.kp T.bits.b .nil pass0 (pa_cons (pe_ix ix_tup (pe_ix ix_tup (pe_ix ix_tup (pv 0) pe_int (fun _ _ => rfl)) (pv 2) (fun _ _ => rfl)) pe_int (fun _ _ => rfl)) pa_nil)))
  (pss_one (ps_ret (pe_cmpR op_eq (pe_op op_and (pe_ix ix_tup (pv 1) pe_int (fun _ _ => rfl)) (pv 3)) (pv 3) (nomark _))))), fun as R hD He σ Q E k => ?_⟩
  · obtain ⟨g, st, n, s, rfl, _⟩ := hD
    rfl
  · obtain ⟨g, st, n, s, rfl, hs, hsp, rfl⟩ := hD
    refine q_set E (xd_call (D := D_bits) (xa_d (xd_at (d := encNs s.tk) (xd_at (d := encS s) (xd_at (xd_var rfl) xd_int rfl) (xd_var rfl) (getmap hs)) xd_int rfl) xa_nil) ⟨_, rfl, hsp.1, rfl⟩) fun σ H e E => ?_
    refine s_ret E (xd_eqN (xd_and (xd_at (xd_var rfl) xd_int rfl) (xd_var rfl)) (xd_var rfl)) k
theorem ok_behind (T : Top K mg C f fd xc) : FnOk P w K mg base CX0 2 (f 4) (fd 4) ["graph", "stand", "step"] (spG K D_behind) := by
  refine Fun.pure T.behind.F sc_behind (fun as R hD => ?_) (by decide) fun cdv A outer s H E hr => ⟨_, (pss_cons (ps_asg (pe_ix ix_tup (pe_ix ix_tup (pv 0) pe_int (fun _ _ => rfl)) (pv 2) (fun _ _ => rfl)) (pg_tup rfl (pgs_cons (pg_name (i := 3) sc_behind.nd rfl (Or.inl rfl)) (pgs_cons (pg_name (i := 4) sc_behind.nd rfl (Or.inl rfl)) (pgs_cons (pg_name (i := 5) sc_behind.nd rfl (Or.inl rfl)) (pgs_cons (pg_name (i := 6) sc_behind.nd rfl (Or.inl rfl)) pgs_nil))))))
  (pss_cons (ps_asg (pv 1) (pg_tup rfl (pgs_cons (pg_name (i := 7) sc_behind.nd rfl (Or.inl rfl)) (pgs_cons (pg_name (i := 8) sc_behind.nd rfl (Or.inl rfl)) pgs_nil))))
  (pss_cons (ps_if (pt_cmpR op_eq (pe_cmpR op_eq (pe_op op_and (pe_op op_shr (pv 8) (pv 3)) pe_int) pe_int (nomark _)) (pv 4) (nomark _)) (pss_one ps_never) pss_nil)
  (pss_cons (ps_set (i := 9) sc_behind.nd rfl (Or.inl rfl) (pe_op op_xor (pv 7) (pe_call (ok_bits T) (hr.mono (by decide)) (by rfl) T.bits.m T.bits.F.kp T.bits.b .nil pass0 (pa_cons (pv 5) pa_nil))))
  (pss_cons (ps_set (i := 10) sc_behind.nd rfl (Or.inl rfl) (pe_call (ok_bits T) (hr.mono (by decide)) (by rfl) T.bits.m T.bits.F.kp T.bits.b .nil pass0 (pa_cons (pv 6) pa_nil)))
  (pss_cons (ps_if (pt_cmpR op_ne (pe_op op_and (pv 9) (pv 10)) pe_int (nomark _)) (pss_one ps_never) pss_nil)
  (pss_one (ps_ret (pe_tup (pa_cons (pe_op op_or (pv 9) (pv 10)) (pa_cons (pe_op op_xor (pv 8) (pe_op op_shl pe_int (pv 3))) pa_nil))))))))))), fun as R hD He σ Q E k => ?_⟩
  · obtain ⟨g, st, n, s, rfl, _⟩ := hD
    rfl
  · obtain ⟨g, st, n, s, rfl, hs, hsp, hsf, rfl⟩ := hD
    refine q_asg E (xd_at (d := encS s) (xd_at (xd_var rfl) xd_int rfl) (xd_var rfl) (getmap hs)) gok4 fun σ H e E => ?_
    refine q_asg E (xd_var (d := encSt st) rfl) gok2 fun σ H e E => ?_
    refine q_if E (xt_test (xd_eqB (xd_eqN (xd_and (xd_shr (xd_var rfl) (xd_var rfl)) xd_int) xd_int) (xd_var rfl))) (fun hb H e E => ?_) (fun hb H e E => ?_)
    · exact absurd (of_decide_eq_true hb) hsf.1
    · -- left = marks ^ bits(takes)
      refine q_set E (xd_xor (xd_var rfl) (xd_call (D := D_bits) (xa_d (xd_var rfl) xa_nil) ⟨_, rfl, hsp.1, rfl⟩)) fun σ H e E => ?_
      refine q_set E (xd_call (D := D_bits) (xa_d (xd_var rfl) xa_nil) ⟨_, rfl, hsp.2.1, rfl⟩) fun σ H e E => ?_
      refine q_if E (xt_test (xd_neN (xd_and (xd_var rfl) (xd_var rfl)) xd_int)) (fun hb H e E => ?_) (fun hb H e E => ?_)
      · rw [hsf.2] at hb
        cases hb
      · refine s_ret E (xd_tup (xs_cons (xd_or (xd_var rfl) (xd_var rfl)) (xs_cons (xd_xor (xd_var rfl) (xd_shl1 xd_int (xd_var rfl) (by have := hsp.2.2.1; omega))) xs_nil)) lenk) k
end

end Q3

namespace Q3
open PySem L2 Evl
/-! ## the program's plain defs: gates_of, wire_called, step_for, apart, rows_apart -/
def D_gates_of : List SD → Res → Prop := fun as R => ∃ (n : List NetW), as = [.dat (encN n)] ∧ (gatesM n).length ≤ 50000 ∧ R = RL ((gatesM n).map encPG)
def D_wire_called : List SD → Res → Prop := fun as R => ∃ (gs : List PGt) (lv : List Bool) (c w : Nat), as = [.rdl (gs.map encPG), .rdl (lv.map .bool), .dat (nat c), .dat (nat w)] ∧ gs.length = lv.length ∧ R = RD (.bool (wireM gs lv c w))
def SpotsG (g : Gr) : Prop := (∀ s ∈ g.steps, spots s ∧ s.w < g.wires.length) ∧ g.steps.length ≤ 1000
theorem stp_at {g : Gr} {k : Nat} (h : k < g.steps.length) : g.steps[k]? = some (stp g k) := at_getD dfS h
theorem SpotsG.at_ {g : Gr} {k : Nat} (S : SpotsG g) (h : k < g.steps.length) : spots (stp g k) := (S.1 _ (List.mem_of_getElem? (stp_at h))).1
theorem SpotsG.wl {g : Gr} {k : Nat} (S : SpotsG g) (h : k < g.steps.length) : (stp g k).w < g.wires.length := (S.1 _ (List.mem_of_getElem? (stp_at h))).2
def D_step_for : List SD → Res → Prop := fun as R => ∃ (g : Gr) (st : St2) (w : Nat), as = [.dat (encG g), .dat (encSt st), .dat (nat w)] ∧ SpotsG g ∧ R = RD (encO (wstepM g st w))
def rowsM (gs : List Gate) : List Gate := gs.flatMap fun g => g.map fun r => [r]
def apartM (n : List NetW) : List NetW := n.map fun x => (x.1, rowsM x.2.1, rowsM x.2.2)
def D_rows_apart : List SD → Res → Prop := fun as R => ∃ (gs : List Gate), as = [.dat (encGs gs)] ∧ (rowsM gs).length ≤ 50000 ∧ R = RD (encGs (rowsM gs))
def D_apart : List SD → Res → Prop := fun as R => ∃ (n : List NetW), as = [.dat (encN n)] ∧ n.length ≤ 50000 ∧ (∀ x ∈ n, (rowsM x.2.1).length ≤ 50000 ∧ (rowsM x.2.2).length ≤ 50000) ∧ R = RD (encN (apartM n))
theorem gates_more {n : List NetW} {m : Nat} {x : NetW} (h : n[m]? = some x) : gatesM (n.take (m + 1)) = gatesM (n.take m) ++ gatesW x := by
  unfold gatesM
  rw [filt_take h, List.flatMap_append]
  simp
theorem gates_le {n : List NetW} {m : Nat} : (gatesM (n.take m)).length ≤ (gatesM n).length := by
  conv => rhs; rw [← List.take_append_drop m n]
  unfold gatesM
  rw [List.flatMap_append, List.length_append]
  omega
theorem rows_more {n : List Gate} {m : Nat} {x : Gate} (h : n[m]? = some x) : rowsM (n.take (m + 1)) = rowsM (n.take m) ++ x.map fun r => [r] := by
  unfold rowsM
  rw [filt_take h, List.flatMap_append]
  simp
theorem rows_le {n : List Gate} {m : Nat} : (rowsM (n.take m)).length ≤ (rowsM n).length := by
  conv => rhs; rw [← List.take_append_drop m n]
  unfold rowsM
  rw [List.flatMap_append, List.length_append]
  omega
theorem map_more {α β : Type} {l : List α} {m : Nat} {x : α} (f : α → β) (h : l[m]? = some x) : (l.take (m + 1)).map f = (l.take m).map f ++ [f x] := by
  rw [filt_take h, List.map_append]
  rfl
section
variable {P : Program} {w : World} {K : PySem.W.Frag} {mg : Str → Option Value} {base : Heap} {C : Addr} {f : Nat → Addr} {fd : Nat → FuncData} {xc : Nat → Addr}
theorem ok_gates_of (T : Top K mg C f fd xc) : FnOk P w K mg base CX0 1 (f 5) (fd 5) ["net"] (spG K D_gates_of) := by
  refine Fun.pure T.gates_of.F sc_gates_of (fun as R hD => ?_) (by decide) fun cdv A outer s H E hr => ⟨_, (pss_cons (ps_set (i := 1) sc_gates_of.nd rfl (Or.inl rfl) (pe_lst pa_nil))
  (pss_cons (ps_for PassesOwn.never rfl (pi_tup (pv 0)) (pg_tup rfl (pgs_cons (pg_name (i := 2) sc_gates_of.nd rfl (Or.inl rfl)) (pgs_cons (pg_name (i := 3) sc_gates_of.nd rfl (Or.inl rfl)) (pgs_cons (pg_name (i := 4) sc_gates_of.nd rfl (Or.inl rfl)) pgs_nil))))
  (pss_cons (ps_for PassesOwn.never rfl (pi_tup (pv 3)) (pg_name (i := 5) sc_gates_of.nd rfl (Or.inl rfl))
  (pss_one (ps_expr (pe_bm PySem.F.plainAttrs_list PySem.F.slot_list_append PySem.F.type_list_append mt_append (pv 1) (pa_cons (pe_tup (pa_cons (pv 2) (pa_cons pe_bl (pa_cons (pv 5) pa_nil)))) pa_nil)))))
  (pss_one (ps_for PassesOwn.never rfl (pi_tup (pv 4)) (pg_name (i := 5) sc_gates_of.nd rfl (Or.inl rfl))
  (pss_one (ps_expr (pe_bm PySem.F.plainAttrs_list PySem.F.slot_list_append PySem.F.type_list_append mt_append (pv 1) (pa_cons (pe_tup (pa_cons (pv 2) (pa_cons pe_bl (pa_cons (pv 5) pa_nil)))) pa_nil))))))))
  (pss_one (ps_ret (pv 1))))), fun as R hD He σ Q E k => ?_⟩
  · obtain ⟨n, rfl, _⟩ := hD
    rfl
  · obtain ⟨n, rfl, hl, rfl⟩ := hD
    refine q_setL E (xl_lst xs_nil lenk) fun a σ H e E => ?_
    refine q_for (S := Unit) (fun m s => True) (fun m s => [.dat (encN n), .lst a ((gatesM (n.take m)).map encPG), .any, .any, .any, .any]) () E (xi_encT (0, [], []) (xd_var rfl)) trivial (.refl _) (fun _ _ _ _ => trivial) (fun m hm => gok3) (fun G m s σ H hm is E => ?_) (fun s σ H is E => ?_)
    · have hx := at_getD ((0, [], []) : NetW) hm
      generalize n.getD m (0, [], []) = x at hx E
      have l1 : (gatesM (n.take m)).length + (x.2.1.length + x.2.2.length) ≤ 50000 := by
        have z := gates_more hx
        have z2 := gates_le (n := n) (m := m + 1)
        rw [z, List.length_append] at z2
        unfold gatesW at z2
        rw [List.length_append, List.length_map, List.length_map] at z2
        omega
      refine q_for (S := Unit) (fun j s => True) (fun j s => [.dat (encN n), .lst a ((gatesM (n.take m) ++ (x.2.1.take j).map (fun g => ((x.1, true, g) : PGt))).map encPG), .dat (nat x.1), .dat (encGs x.2.1), .dat (encGs x.2.2), .any]) () E (xi_encT [] (xd_var rfl)) trivial (by
        rw [List.take_zero, List.map_nil, List.append_nil]
        exact .refl _) (fun _ _ _ _ => trivial) (fun j hj => gok_name) (fun G j s σ H hj is E => ?_) (fun s σ H is E => ?_)
      · have hg := at_getD ([] : Gate) hj
        refine s_app E rfl (xd_tup (xs_cons (xd_var rfl) (xs_cons xd_bl (xs_cons (xd_var rfl) xs_nil))) lenk) (by
          rw [List.length_map, List.length_append, List.length_map, List.length_take]
          omega) fun H E => ⟨(), trivial, ?_⟩
        rw [map_more _ hg, ← List.append_assoc, List.map_append]
        exact E.wk (.same (.same (.same (.same (.same (.drop .nil))))))
      · rw [List.take_length] at E
        refine s_for (S := Unit) (fun j s => True) (fun j s => [.dat (encN n), .lst a ((gatesM (n.take m) ++ x.2.1.map (fun g => ((x.1, true, g) : PGt)) ++ (x.2.2.take j).map (fun g => ((x.1, false, g) : PGt))).map encPG), .dat (nat x.1), .dat (encGs x.2.1), .dat (encGs x.2.2), .any]) () E (xi_encT [] (xd_var rfl)) trivial (by
          rw [List.take_zero, List.map_nil, List.append_nil]
          exact .refl _) (fun _ _ _ _ => trivial) (fun j hj => gok_name) (fun G j s σ H hj is E => ?_) (fun s σ H is E => ?_)
        · have hg := at_getD ([] : Gate) hj
          refine s_app E rfl (xd_tup (xs_cons (xd_var rfl) (xs_cons xd_bl (xs_cons (xd_var rfl) xs_nil))) lenk) (by
            rw [List.length_map, List.length_append, List.length_append, List.length_map, List.length_map, List.length_take]
            omega) fun H E => ⟨(), trivial, ?_⟩
          rw [map_more _ hg, ← List.append_assoc, List.map_append]
          exact E.wk (.same (.same (.same (.same (.same (.drop .nil))))))
        · rw [List.take_length, List.append_assoc] at E
          refine ⟨(), trivial, ?_⟩
          rw [gates_more hx]
          exact E.wk (.same (.same (.drop (.drop (.drop (.drop .nil))))))
    · rw [List.take_length] at E
      exact s_retV E rfl k
theorem ok_wire_called (T : Top K mg C f fd xc) : FnOk P w K mg base CX0 1 (f 6) (fd 6) ["gates", "levels", "code", "wire"] (spG K D_wire_called) := by
  refine Fun.pure T.wire_called.F sc_wire_called (fun as R hD => ?_) (by decide) fun cdv A outer s H E hr => ⟨_, (pss_cons (ps_set (i := 4) sc_wire_called.nd rfl (Or.inl rfl) pe_bl)
  (pss_cons (ps_set (i := 5) sc_wire_called.nd rfl (Or.inl rfl) pe_bl)
  (pss_cons (ps_for PassesOwn.never rfl (pi_zip (by rfl) T.n_zip (pa_cons (pv 0) (pa_cons (pv 1) pa_nil))) (pg_tup rfl (pgs_cons (pg_name (i := 6) sc_wire_called.nd rfl (Or.inl rfl)) (pgs_cons (pg_name (i := 7) sc_wire_called.nd rfl (Or.inl rfl)) pgs_nil)))
  (pss_one (ps_if (PW.pt (pw_and (pt_cmpR op_eq (pe_ix ix_tup (pv 6) pe_int (fun _ _ => rfl)) (pv 3) (nomark _)) (pw_and1 (pt_val (pv 7))))) (pss_cons (ps_set (i := 4) sc_wire_called.nd rfl (Or.inl rfl) (pe_or (pv 4) (pe_one (pe_ix ix_tup (pv 6) pe_int (fun _ _ => rfl)))))
  (pss_one (ps_set (i := 5) sc_wire_called.nd rfl (Or.inl rfl) (pe_or (pv 5) (pe_one (pe_not (pe_ix ix_tup (pv 6) pe_int (fun _ _ => rfl)))))))) pss_nil)))
  (pss_cons (ps_if (pt_cmpR op_eq (pe_op op_and (pe_op op_shr (pv 2) (pv 3)) pe_int) pe_int (nomark _)) (pss_one (ps_ret (pe_and (pv 4) (pe_one (pe_not (pv 5)))))) pss_nil)
  (pss_one (ps_ret (pe_and (pv 5) (pe_one (pe_not (pv 4)))))))))), fun as R hD He σ Q E k => ?_⟩
  · obtain ⟨gs, lv, c, w, rfl, _⟩ := hD
    rfl
  · obtain ⟨gs, lv, c, w, rfl, hl, rfl⟩ := hD
    refine q_set E xd_bl fun σ H e E => ?_
    refine q_set E xd_bl fun σ H e E => ?_
    have zl : (gs.zip lv).length = gs.length := by rw [List.length_zip]; omega
    refine q_for (S := Unit) (fun m s => True) (fun m s => [.rdl (gs.map encPG), .rdl (lv.map .bool), .dat (nat c), .dat (nat w), .dat (.bool (risM ((gs.zip lv).take m) w)), .dat (.bool (falM ((gs.zip lv).take m) w)), .any, .any]) () E (xi_zipE (0, false, []) false rfl rfl hl) trivial (.refl _) (fun _ _ _ _ => trivial) (fun m hm => gok2) (fun G m s σ H hm is E => ?_) (fun s σ H is E => ?_)
    · have hx := at_getD ((0, false, []) : PGt) hm
      have hy := at_getD false (l := lv) (m := m) (by omega)
      generalize gs.getD m (0, false, []) = x at hx E
      generalize lv.getD m false = y at hy E
      have hz : (gs.zip lv)[m]? = some (x, y) := by rw [List.getElem?_zip_eq_some]; exact ⟨hx, hy⟩
      have er : risM ((gs.zip lv).take (m + 1)) w = (risM ((gs.zip lv).take m) w || (decide (x.1 = w) && y && x.2.1)) := by
        unfold risM
        rw [filt_take hz, List.any_append]
        simp
      have ef : falM ((gs.zip lv).take (m + 1)) w = (falM ((gs.zip lv).take m) w || (decide (x.1 = w) && y && !x.2.1)) := by
        unfold falM
        rw [filt_take hz, List.any_append]
        simp
      refine s_if E (xt_and (xt_test (xd_eqN (xd_at (xd_var (d := encPG x) rfl) xd_int rfl) (xd_var rfl))) fun h => (xt_B (xd_var rfl))) (fun hb H e E => ?_) (fun hb H e E => ?_)
      · refine q_set E (xd_orV (xd_var rfl) fun h => (xd_at (xd_var (d := encPG x) rfl) xd_int rfl)) fun σ H e E => ?_
        refine s_set E (xd_orV (xd_var rfl) fun h => (xd_notV (xd_at (xd_var (d := encPG x) rfl) xd_int rfl))) fun σ H e E => ⟨(), trivial, ?_⟩
        rw [er, ef, hb, Bool.true_and, Bool.true_and]
        exact E.wk (.same (.same (.same (.same (.same (.same (.drop (.drop .nil))))))))
      · refine ⟨(), trivial, ?_⟩
        rw [er, ef, hb, Bool.false_and, Bool.false_and, Bool.or_false, Bool.or_false]
        exact E.wk (.same (.same (.same (.same (.same (.same (.drop (.drop .nil))))))))
    · rw [← zl, List.take_length] at E
      unfold wireM at k
      refine q_if E (xt_test (xd_eqN (xd_and (xd_shr (xd_var rfl) (xd_var rfl)) xd_int) xd_int)) (fun hb H e E => ?_) (fun hb H e E => ?_)
      · rw [if_pos (of_decide_eq_true hb)] at k
        refine s_ret E (xd_andV (xd_var rfl) fun h => (xd_notV (xd_var rfl))) k
      · rw [if_neg (of_decide_eq_false hb)] at k
        refine s_ret E (xd_andV (xd_var rfl) fun h => (xd_notV (xd_var rfl))) k
theorem find_none_more {p : Nat → Bool} {m : Nat} (h : (List.range m).find? p = none) (hb : p m = false) : (List.range (m + 1)).find? p = none := by
  rw [List.range_succ, List.find?_append, h]
  simp [hb]
theorem find_some_more {p : Nat → Bool} {m n : Nat} (h : (List.range m).find? p = none) (hb : p m = true) (hm : m < n) : (List.range n).find? p = some m := by
  have e : List.range n = List.range m ++ (List.range (n - m)).map (m + ·) := by
    rw [← List.range_add]
    congr 1
    omega
  rw [e, List.find?_append, h]
  obtain ⟨q, hq⟩ : ∃ q, n - m = q + 1 := ⟨n - m - 1, by omega⟩
  rw [hq, List.range_succ_eq_map]
  simp [hb]
theorem ok_step_for (T : Top K mg C f fd xc) : FnOk P w K mg base CX0 3 (f 7) (fd 7) ["graph", "stand", "wire"] (spG K D_step_for) := by
  refine Fun.pure T.step_for.F sc_step_for (fun as R hD => ?_) (by decide) fun cdv A outer s H E hr => ⟨_, (pss_cons (ps_set (i := 3) sc_step_for.nd rfl (Or.inl rfl) (pe_cmpR op_eq (pe_op op_and (pe_op op_shr (pe_ix ix_tup (pv 1) pe_int (fun _ _ => rfl)) (pv 2)) pe_int) pe_int (nomark _)))
  (pss_cons (ps_for PassesOwn.never rfl (pi_range1 rfl T.n_range (pa_cons (pe_callB call_len_seq (by rfl) T.n_len (by decide +kernel) (pa_cons (pe_ix ix_tup (pv 0) pe_int (fun _ _ => rfl)) pa_nil)) pa_nil)) (pg_name (i := 4) sc_step_for.nd rfl (Or.inl rfl))
  (pss_one (ps_if (PW.pt (pw_and (pt_cmpR op_eq (pe_ix ix_tup (pe_ix ix_tup (pe_ix ix_tup (pv 0) pe_int (fun _ _ => rfl)) (pv 4) (fun _ _ => rfl)) pe_int (fun _ _ => rfl)) (pv 2) (nomark _)) (pw_and (pt_cmpR op_eq (pe_ix ix_tup (pe_ix ix_tup (pe_ix ix_tup (pv 0) pe_int (fun _ _ => rfl)) (pv 4) (fun _ _ => rfl)) pe_int (fun _ _ => rfl)) (pv 3) (nomark _)) (pw_and1 (pt_val (pe_call (ok_can T) (hr.mono (by decide)) (by rfl) T.can.m T.can.F.kp T.can.b .nil pass0 (pa_cons (pv 0) (pa_cons (pv 1) (pa_cons (pv 4) pa_nil))))))))) (pss_one (ps_ret (pv 4))) pss_nil)))
  (pss_one (ps_ret pe_non)))), fun as R hD He σ Q E k => ?_⟩
  · obtain ⟨g, st, w, rfl, _⟩ := hD
    rfl
  · obtain ⟨g, st, w, rfl, S, rfl⟩ := hD
    refine q_set E (xd_eqN (xd_and (xd_shr (xd_at (xd_var (d := encSt st) rfl) xd_int rfl) (xd_var rfl)) xd_int) xd_int) fun σ H e E => ?_
    refine q_for (S := Unit) (fun m s => (List.range m).find? (wsM g st w) = none) (fun m s => [.dat (encG g), .dat (encSt st), .dat (nat w), .dat (.bool (decide (st.2 >>> w &&& 1 = 0))), .any]) () E (xi_range (xd_len (xd_at (xd_var rfl) xd_int rfl) (List.length_map _)) (by have := S.2; omega)) rfl (.refl _) (fun _ _ _ _ => trivial) (fun m hm => gok_name) (fun G m s σ H hm is E => ?_) (fun s σ H is E => ?_)
    · have hs := stp_at hm
      have hsp := S.at_ hm
      refine s_if E (b := wsM g st w m) (xt_and (xt_test (xd_eqN (xd_at (xd_at (d := encS (stp g m)) (xd_at (xd_var rfl) xd_int rfl) (xd_var rfl) (getmap hs)) xd_int rfl) (xd_var rfl))) fun h => (xt_and (xt_test (xd_eqB (xd_at (xd_at (d := encS (stp g m)) (xd_at (xd_var rfl) xd_int rfl) (xd_var rfl) (getmap hs)) xd_int rfl) (xd_var rfl))) fun h => (xt_B (xd_call (D := D_can) (xa_d (xd_var rfl) (xa_d (xd_var rfl) (xa_d (xd_var rfl) xa_nil))) ⟨_, _, _, _, rfl, hs, hsp, rfl⟩)))) (fun hb H e E => ?_) (fun hb H e E => ?_)
      · unfold wstepM at k
        rw [find_some_more is hb hm] at k
        refine s_ret E (xd_var rfl) k
      · exact ⟨(), find_none_more is hb, E.wk (.same (.same (.same (.same (.drop .nil)))))⟩
    · unfold wstepM at k
      rw [is] at k
      refine s_ret E xd_non k
theorem ok_rows_apart (T : Top K mg C f fd xc) : FnOk P w K mg base CX0 1 (f 9) (fd 9) ["gates"] (spG K D_rows_apart) := by
  refine Fun.pure T.rows_apart.F sc_rows_apart (fun as R hD => ?_) (by decide) fun cdv A outer s H E hr => ⟨_, (pss_cons (ps_set (i := 1) sc_rows_apart.nd rfl (Or.inl rfl) (pe_lst pa_nil))
  (pss_cons (ps_for PassesOwn.never rfl (pi_tup (pv 0)) (pg_name (i := 2) sc_rows_apart.nd rfl (Or.inl rfl))
  (pss_one (ps_expr (pe_bm PySem.F.plainAttrs_list PySem.F.slot_list_extend PySem.F.type_list_extend mt_extend (pv 1) (pa_cons (pe_lc (own := [("row", 3)]) (by rfl) sc_rows_apart.nd (pi_tup (pv 2)) (blkOk_by (own := [("row", 3)]) (N := N_rows_apart) (sc := defScope s_rows_apart) (by decide +kernel)) (fun _ _ _ _ _ => (pg_name (i := 3) sc_rows_apart.nd rfl (Or.inl rfl))) (fun _ _ _ _ _ => pts_nil) (fun _ _ _ _ _ => (pe_tup (pa_cons (pv 3) pa_nil)))) pa_nil)))))
  (pss_one (ps_ret (pe_callTy call_tuple_of (by rfl) T.n_tuple (by decide +kernel) (pa_cons (pv 1) pa_nil)))))), fun as R hD He σ Q E k => ?_⟩
  · obtain ⟨n, rfl, _⟩ := hD
    rfl
  · obtain ⟨n, rfl, hl, rfl⟩ := hD
    refine q_setL E (xl_lst xs_nil lenk) fun a σ H e E => ?_
    refine q_for (S := Unit) (fun m s => True) (fun m s => [.dat (encGs n), .lst a ((rowsM (n.take m)).map encGt), .any, .any]) () E (xi_encT [] (xd_var rfl)) trivial (.refl _) (fun _ _ _ _ => trivial) (fun m hm => gok_name) (fun G m s σ H hm is E => ?_) (fun s σ H is E => ?_)
    · have hx := at_getD ([] : Gate) hm
      generalize n.getD m [] = x at hx E
      have l1 : (rowsM (n.take m)).length + x.length ≤ 50000 := by
        have z := rows_more hx
        have z2 := rows_le (n := n) (m := m + 1)
        rw [z, List.length_append, List.length_map] at z2
        omega
      refine s_ext E rfl (xl_lcAll (l := x) (fun r => encGt [r]) (xi_encT (0, 0) (xd_var rfl)) rfl (by omega) trivial fun m x hx => ⟨_, _, gok_name, by decide, (by
        rw [getD_of _ hx]
        exact xd_tup (xs_cons (xd_var rfl) xs_nil) lenk)⟩) (by
        rw [List.length_map, List.length_map]
        omega) fun H E => ⟨(), trivial, ?_⟩
      rw [rows_more hx, List.map_append, List.map_map]
      exact E.wk (.same (.same (.drop (.drop .nil))))
    · rw [List.take_length] at E
      refine s_ret E (xd_tupOf (xr_lst rfl)) k
theorem ok_apart (T : Top K mg C f fd xc) : FnOk P w K mg base CX0 2 (f 8) (fd 8) ["net"] (spG K D_apart) := by
  refine Fun.pure T.apart.F sc_apart (fun as R hD => ?_) (by decide) fun cdv A outer s H E hr => ⟨_, (pss_cons (ps_set (i := 1) sc_apart.nd rfl (Or.inl rfl) (pe_lst pa_nil))
  (pss_cons (ps_for PassesOwn.never rfl (pi_tup (pv 0)) (pg_tup rfl (pgs_cons (pg_name (i := 2) sc_apart.nd rfl (Or.inl rfl)) (pgs_cons (pg_name (i := 3) sc_apart.nd rfl (Or.inl rfl)) (pgs_cons (pg_name (i := 4) sc_apart.nd rfl (Or.inl rfl)) pgs_nil))))
  (pss_one (ps_expr (pe_bm PySem.F.plainAttrs_list PySem.F.slot_list_append PySem.F.type_list_append mt_append (pv 1) (pa_cons (pe_tup (pa_cons (pv 2) (pa_cons (pe_call (ok_rows_apart T) (hr.mono (by decide)) (by rfl) T.rows_apart.m T.rows_apart.F.kp T.rows_apart.b .nil pass0 (pa_cons (pv 3) pa_nil)) (pa_cons (pe_call (ok_rows_apart T) (hr.mono (by decide)) (by rfl) T.rows_apart.m T.rows_apart.F.kp T.rows_apart.b .nil pass0 (pa_cons (pv 4) pa_nil)) pa_nil)))) pa_nil)))))
  (pss_one (ps_ret (pe_callTy call_tuple_of (by rfl) T.n_tuple (by decide +kernel) (pa_cons (pv 1) pa_nil)))))), fun as R hD He σ Q E k => ?_⟩
  · obtain ⟨n, rfl, _⟩ := hD
    rfl
  · obtain ⟨n, rfl, hl, hr, rfl⟩ := hD
    refine q_setL E (xl_lst xs_nil lenk) fun a σ H e E => ?_
    refine q_for (S := Unit) (fun m s => True) (fun m s => [.dat (encN n), .lst a ((apartM (n.take m)).map encNw), .any, .any, .any]) () E (xi_encT (0, [], []) (xd_var rfl)) trivial (.refl _) (fun _ _ _ _ => trivial) (fun m hm => gok3) (fun G m s σ H hm is E => ?_) (fun s σ H is E => ?_)
    · have hx := at_getD ((0, [], []) : NetW) hm
      generalize n.getD m (0, [], []) = x at hx E
      have hx2 := hr x (List.mem_of_getElem? hx)
      refine s_app E rfl (xd_tup (xs_cons (xd_var rfl) (xs_cons (xd_call (D := D_rows_apart) (xa_d (xd_var rfl) xa_nil) ⟨_, rfl, hx2.1, rfl⟩) (xs_cons (xd_call (D := D_rows_apart) (xa_d (xd_var rfl) xa_nil) ⟨_, rfl, hx2.2, rfl⟩) xs_nil))) lenk) (by
        unfold apartM
        rw [List.length_map, List.length_map, List.length_take]
        omega) fun H E => ⟨(), trivial, ?_⟩
      have e2 : (apartM (n.take (m + 1))).map encNw = (apartM (n.take m)).map encNw ++ [encNw (x.1, rowsM x.2.1, rowsM x.2.2)] := by
        unfold apartM
        rw [map_more _ hx, List.map_append]
        rfl
      rw [e2]
      exact E.wk (.same (.same (.drop (.drop (.drop .nil)))))
    · rw [List.take_length] at E
      refine s_ret E (xd_tupOf (xr_lst rfl)) k
end

end Q3

namespace Q3
open PySem L2 Evl
/-! ## a Play's reading methods: stand, level, called, moves -/
structure Ok2 (g : Gr) (n : List NetW) : Prop where
  S : SpotsG g
  gl : (gatesM n).length ≤ 50000
  nl : n.length ≤ 10000
def D_P_stand (C : Addr) : List SD → Res → Prop := fun as R => ∃ (p : Addr) (g n h : PyData) (ls : List PyData), as = [.play C p g n h ls] ∧ R = RD h
def D_P_level (C : Addr) : List SD → Res → Prop := fun as R => ∃ (p : Addr) (g n h : PyData) (lv : List Bool) (k : Nat) (b : Bool), as = [.play C p g n h (lv.map .bool), .dat (nat k)] ∧ lv[k]? = some b ∧ R = RD (.bool b)
def D_P_called (C : Addr) : List SD → Res → Prop := fun as R => ∃ (p : Addr) (g : Gr) (n : List NetW) (st : St2) (lv : List Bool), as = [.play C p (encG g) (encN n) (encSt st) (lv.map .bool)] ∧ Ok2 g n ∧ (gatesM n).length = lv.length ∧ R = RL ((calledM n st.2 lv).map encM)
def D_P_moves (C : Addr) : List SD → Res → Prop := fun as R => ∃ (p : Addr) (g : Gr) (n : List NetW) (st : St2) (lv : List Bool), as = [.play C p (encG g) (encN n) (encSt st) (lv.map .bool)] ∧ Ok2 g n ∧ (gatesM n).length = lv.length ∧ R = RL ((movesM g n (st, lv)).map encM)
theorem rng_yes {p : Nat → Bool} {m : Nat} (h : p m = true) : (List.range (m + 1)).filter p = (List.range m).filter p ++ [m] := by
  rw [List.range_succ, List.filter_append, List.filter_cons, if_pos h] <;> rfl
theorem rng_no {p : Nat → Bool} {m : Nat} (h : p m = false) : (List.range (m + 1)).filter p = (List.range m).filter p := by
  rw [List.range_succ, List.filter_append, List.filter_cons, if_neg (by rw [h]; decide)]
  simp
theorem flt_yes {α : Type} {l : List α} {p : α → Bool} {m : Nat} {x : α} (hx : l[m]? = some x) (h : p x = true) : (l.take (m + 1)).filter p = (l.take m).filter p ++ [x] := by
  rw [filt_take hx, List.filter_append, List.filter_cons, if_pos h] <;> rfl
theorem flt_no {α : Type} {l : List α} {p : α → Bool} {m : Nat} {x : α} (hx : l[m]? = some x) (h : p x = false) : (l.take (m + 1)).filter p = (l.take m).filter p := by
  rw [filt_take hx, List.filter_append, List.filter_cons, if_neg (by rw [h]; decide)]
  simp
theorem rng_len {p : Nat → Bool} {m : Nat} : ((List.range m).filter p).length ≤ m := by
  have := List.length_filter_le p (List.range m)
  rw [List.length_range] at this
  exact this
theorem flt_len {α : Type} {l : List α} {p : α → Bool} {m : Nat} : ((l.take m).filter p).length ≤ l.length := by
  have := List.length_filter_le p (l.take m)
  rw [List.length_take] at this
  omega
theorem bne_dec (a b : Bool) : (!decide (a = b)) = (a != b) := by cases a <;> cases b <;> rfl
theorem called_len {n : List NetW} {c : Nat} {lv : List Bool} : (calledM n c lv).length ≤ (gatesM n).length + n.length := by
  unfold calledM calledG calledW
  rw [List.length_append, List.length_map, List.length_map]
  have h1 := rng_len (p := fun g => lv.getD g false != upM (gat (gatesM n) g) c) (m := (gatesM n).length)
  have h2 := List.length_filter_le (fun x : NetW => wireM (gatesM n) lv c x.1) n
  omega
section
variable {P : Program} {w : World} {K : PySem.W.Frag} {mg : Str → Option Value} {base : Heap} {C : Addr} {f : Nat → Addr} {fd : Nat → FuncData} {xc : Nat → Addr}
theorem ok_P_stand (T : Top K mg C f fd xc) : FnOk P w K mg base CX0 1 (f 11) (fd 11) ["self"] (spG K (D_P_stand C)) := by
  refine Fun.pure T.P_stand.F sc_P_stand (fun as R hD => ?_) (by decide) fun cdv A outer s H E hr => ⟨_, (pss_one (ps_ret (pe_fld (pv 0) rfl))), fun as R hD He σ Q E k => ?_⟩
  · obtain ⟨p, g, n, h, ls, rfl, _⟩ := hD
    rfl
  · obtain ⟨p, g, n, h, ls, rfl, rfl⟩ := hD
    refine s_ret E (xd_fH rfl T.cl T.aH) k
theorem ok_P_level (T : Top K mg C f fd xc) : FnOk P w K mg base CX0 1 (f 12) (fd 12) ["self", "g"] (spG K (D_P_level C)) := by
  refine Fun.pure T.P_level.F sc_P_level (fun as R hD => ?_) (by decide) fun cdv A outer s H E hr => ⟨_, (pss_one (ps_ret (pe_ix ix_list (pe_fld (pv 0) rfl) (pv 1) (fun _ _ => rfl)))), fun as R hD He σ Q E k => ?_⟩
  · obtain ⟨p, g, n, h, lv, k, b, rfl, _⟩ := hD
    rfl
  · obtain ⟨p, g, n, h, lv, j, b, rfl, hb, rfl⟩ := hD
    refine s_ret E (xd_atL (xr_fL rfl T.cl T.aL) (xd_var rfl) (getmap hb)) k
theorem ok_P_called (T : Top K mg C f fd xc) : FnOk P w K mg base CX0 3 (f 13) (fd 13) ["self"] (spG K (D_P_called C)) := by
  refine Fun.pure T.P_called.F sc_P_called (fun as R hD => ?_) (by decide) fun cdv A outer s H E hr => ⟨_, (pss_cons (ps_set (i := 1) sc_P_called.nd rfl (Or.inl rfl) (pe_call (ok_gates_of T) (hr.mono (by decide)) (by rfl) T.gates_of.m T.gates_of.F.kp T.gates_of.b .nil pass0 (pa_cons (pe_fld (pv 0) rfl) pa_nil)))
  (pss_cons (ps_set (i := 2) sc_P_called.nd rfl (Or.inl rfl) (pe_ix ix_tup (pe_fld (pv 0) rfl) pe_int (fun _ _ => rfl)))
  (pss_cons (ps_set (i := 3) sc_P_called.nd rfl (Or.inl rfl) (pe_lst pa_nil))
  (pss_cons (ps_for PassesOwn.never rfl (pi_range1 rfl T.n_range (pa_cons (pe_callB call_len_seq (by rfl) T.n_len (by decide +kernel) (pa_cons (pv 1) pa_nil)) pa_nil)) (pg_name (i := 4) sc_P_called.nd rfl (Or.inl rfl))
  (pss_one (ps_if (pt_cmpR op_ne (pe_ix ix_list (pe_fld (pv 0) rfl) (pv 4) (fun _ _ => rfl)) (pe_call (ok_is_up T) (hr.mono (by decide)) (by rfl) T.is_up.m T.is_up.F.kp T.is_up.b .nil pass0 (pa_cons (pe_ix ix_tup (pe_ix ix_list (pv 1) (pv 4) (fun _ _ => rfl)) pe_int (fun _ _ => rfl)) (pa_cons (pv 2) pa_nil))) (nomark _)) (pss_one (ps_expr (pe_bm PySem.F.plainAttrs_list PySem.F.slot_list_append PySem.F.type_list_append mt_append (pv 3) (pa_cons (pe_tup (pa_cons pe_str (pa_cons (pv 4) pa_nil))) pa_nil)))) pss_nil)))
  (pss_cons (ps_for PassesOwn.never rfl (pi_tup (pe_fld (pv 0) rfl)) (pg_tup rfl (pgs_cons (pg_name (i := 5) sc_P_called.nd rfl (Or.inl rfl)) (pgs_cons (pg_name (i := 6) sc_P_called.nd rfl (Or.inl rfl)) (pgs_cons (pg_name (i := 7) sc_P_called.nd rfl (Or.inl rfl)) pgs_nil))))
  (pss_one (ps_if (pt_val (pe_call (ok_wire_called T) (hr.mono (by decide)) (by rfl) T.wire_called.m T.wire_called.F.kp T.wire_called.b .nil pass0 (pa_cons (pv 1) (pa_cons (pe_fld (pv 0) rfl) (pa_cons (pv 2) (pa_cons (pv 5) pa_nil)))))) (pss_one (ps_expr (pe_bm PySem.F.plainAttrs_list PySem.F.slot_list_append PySem.F.type_list_append mt_append (pv 3) (pa_cons (pe_tup (pa_cons pe_str (pa_cons (pv 5) pa_nil))) pa_nil)))) pss_nil)))
  (pss_one (ps_ret (pv 3)))))))), fun as R hD He σ Q E k => ?_⟩
  · obtain ⟨p, g, n, st, lv, rfl, _⟩ := hD
    rfl
  · obtain ⟨p, g, n, st, lv, rfl, O, hl, rfl⟩ := hD
    have gl := O.gl
    have nl := O.nl
    refine q_setL E (xl_call (D := D_gates_of) (xa_d (xd_fN rfl T.cl T.aN) xa_nil) ⟨_, rfl, O.gl, rfl⟩) fun a σ H e E => ?_
    refine q_set E (xd_at (xd_fH (h := encSt st) rfl T.cl T.aH) xd_int rfl) fun σ H e E => ?_
    refine q_setL E (xl_lst xs_nil lenk) fun b σ H e E => ?_
    refine q_for (S := Unit) (fun m s => True) (fun m s => [.play C p (encG g) (encN n) (encSt st) (lv.map .bool), .lst a ((gatesM n).map encPG), .dat (nat st.2), .lst b ((((List.range m).filter fun g => lv.getD g false != upM (gat (gatesM n) g) st.2).map fun g : Nat => ((1, (g : Int)) : Mv)).map encM), .any, .any, .any, .any]) () E (xi_range (xd_lenL (xr_lst rfl) (List.length_map _)) (by omega)) trivial (.refl _) (fun _ _ _ _ => trivial) (fun m hm => gok_name) (fun G m s σ H hm is E => ?_) (fun s σ H is E => ?_)
    · have hx := at_getD ((0, false, []) : PGt) hm
      have hy := at_getD false (l := lv) (m := m) (by omega)
      refine s_when E (xt_test (xd_neB (xd_atL (xr_fL rfl T.cl T.aL) (xd_var rfl) (getmap hy)) (xd_call (D := D_is_up) (xa_d (xd_at (d := encGt (gat (gatesM n) m)) (xd_atL (xr_lst rfl) (xd_var rfl) (getmap hx)) xd_int rfl) (xa_d (xd_var rfl) xa_nil)) ⟨_, _, rfl, rfl⟩))) (fun hb H e E => ?_) (fun hb H e E => ?_)
      · rw [bne_dec] at hb
        refine s_app E rfl (xd_tup (xs_cons xd_str (xs_cons (xd_var rfl) xs_nil)) lenk) (by
          rw [List.length_map, List.length_map]
          have := rng_len (p := fun g => lv.getD g false != upM (gat (gatesM n) g) st.2) (m := m)
          omega) fun H E => ⟨(), trivial, ?_⟩
        rw [rng_yes (p := fun g => lv.getD g false != upM (gat (gatesM n) g) st.2) hb, List.map_append, List.map_append]
        exact E.wk (.same (.same (.same (.same (.drop (.same (.same (.same .nil))))))))
      · rw [bne_dec] at hb
        refine ⟨(), trivial, ?_⟩
        rw [rng_no (p := fun g => lv.getD g false != upM (gat (gatesM n) g) st.2) hb]
        exact E.wk (.same (.same (.same (.same (.drop (.same (.same (.same .nil))))))))
    · -- for wire, rises, falls in self.net:
      have e1 : (((List.range (gatesM n).length).filter fun g => lv.getD g false != upM (gat (gatesM n) g) st.2).map fun g : Nat => ((1, (g : Int)) : Mv)) = calledG (gatesM n) st.2 lv := rfl
      rw [e1] at E
      refine q_for (S := Unit) (fun m s => True) (fun m s => [.play C p (encG g) (encN n) (encSt st) (lv.map .bool), .lst a ((gatesM n).map encPG), .dat (nat st.2), .lst b ((calledG (gatesM n) st.2 lv ++ ((n.take m).filter fun x => wireM (gatesM n) lv st.2 x.1).map fun x : NetW => ((2, (x.1 : Int)) : Mv)).map encM), .any, .any, .any, .any]) () E (xi_encT (0, [], []) (xd_fN rfl T.cl T.aN)) trivial (by
        rw [List.take_zero, List.filter_nil, List.map_nil, List.append_nil]
        exact .refl _) (fun _ _ _ _ => trivial) (fun m hm => gok3) (fun G m s σ H hm is E => ?_) (fun s σ H is E => ?_)
      · have hx := at_getD ((0, [], []) : NetW) hm
        generalize n.getD m (0, [], []) = x at hx E
        refine s_when E (xt_B (xd_call (D := D_wire_called) (xa_r (xr_lst rfl) (xa_r (xr_fL rfl T.cl T.aL) (xa_d (xd_var rfl) (xa_d (xd_var rfl) xa_nil)))) ⟨_, _, _, _, rfl, hl, rfl⟩)) (fun hb H e E => ?_) (fun hb H e E => ?_)
        · refine s_app E rfl (xd_tup (xs_cons xd_str (xs_cons (xd_var rfl) xs_nil)) lenk) (by
            have z1 := flt_len (p := fun x : NetW => wireM (gatesM n) lv st.2 x.1) (l := n) (m := m)
            have z2 := rng_len (p := fun g => lv.getD g false != upM (gat (gatesM n) g) st.2) (m := (gatesM n).length)
            unfold calledG
            rw [List.length_map, List.length_append, List.length_map, List.length_map]
            omega) fun H E => ⟨(), trivial, ?_⟩
          have e2 : (calledG (gatesM n) st.2 lv ++ ((n.take (m + 1)).filter fun x => wireM (gatesM n) lv st.2 x.1).map fun x : NetW => ((2, (x.1 : Int)) : Mv)).map encM = (calledG (gatesM n) st.2 lv ++ ((n.take m).filter fun x => wireM (gatesM n) lv st.2 x.1).map fun x : NetW => ((2, (x.1 : Int)) : Mv)).map encM ++ [encM (2, (x.1 : Int))] := by
            rw [flt_yes (p := fun x : NetW => wireM (gatesM n) lv st.2 x.1) hx hb]
            simp only [List.map_append, List.append_assoc, List.map_cons, List.map_nil]
          rw [e2]
          exact E.wk (.same (.same (.same (.same (.same (.drop (.drop (.drop .nil))))))))
        · refine ⟨(), trivial, ?_⟩
          rw [flt_no (p := fun x : NetW => wireM (gatesM n) lv st.2 x.1) hx hb]
          exact E.wk (.same (.same (.same (.same (.same (.drop (.drop (.drop .nil))))))))
      · rw [List.take_length] at E
        exact s_retV E rfl k
theorem kind_at {g : Gr} {k : Nat} (S : SpotsG g) (h : k < g.steps.length) : g.wires[(stp g k).w]? = some ((g.wires.getD (stp g k).w ("", ""))) := at_getD _ (S.wl h)
theorem ok_P_moves (T : Top K mg C f fd xc) : FnOk P w K mg base CX0 4 (f 14) (fd 14) ["self"] (spG K (D_P_moves C)) := by
  refine Fun.pure T.P_moves.F sc_P_moves (fun as R hD => ?_) (by decide) fun cdv A outer s H E hr => ⟨_, (pss_cons (ps_set (i := 1) sc_P_moves.nd rfl (Or.inl rfl) (pe_lst pa_nil))
  (pss_cons (ps_for PassesOwn.never rfl (pi_range1 rfl T.n_range (pa_cons (pe_callB call_len_seq (by rfl) T.n_len (by decide +kernel) (pa_cons (pe_ix ix_tup (pe_fld (pv 0) rfl) pe_int (fun _ _ => rfl)) pa_nil)) pa_nil)) (pg_name (i := 2) sc_P_moves.nd rfl (Or.inl rfl))
  (pss_one (ps_if (PW.pt (pw_and (pt_cmpR op_eq (pe_ix ix_tup (pe_ix ix_tup (pe_ix ix_tup (pe_fld (pv 0) rfl) pe_int (fun _ _ => rfl)) (pe_ix ix_tup (pe_ix ix_tup (pe_ix ix_tup (pe_fld (pv 0) rfl) pe_int (fun _ _ => rfl)) (pv 2) (fun _ _ => rfl)) pe_int (fun _ _ => rfl)) (fun _ _ => rfl)) pe_int (fun _ _ => rfl)) pe_str (nomark _)) (pw_and1 (pt_val (pe_call (ok_can T) (hr.mono (by decide)) (by rfl) T.can.m T.can.F.kp T.can.b .nil pass0 (pa_cons (pe_fld (pv 0) rfl) (pa_cons (pe_fld (pv 0) rfl) (pa_cons (pv 2) pa_nil)))))))) (pss_one (ps_expr (pe_bm PySem.F.plainAttrs_list PySem.F.slot_list_append PySem.F.type_list_append mt_append (pv 1) (pa_cons (pe_tup (pa_cons pe_str (pa_cons (pv 2) pa_nil))) pa_nil)))) pss_nil)))
  (pss_one (ps_ret (pe_op op_cat (pv 1) (pe_meth0 (pv 0) T.cl T.P_called_m (ok_P_called T) (hr.mono (by decide)) T.P_called.b .nil pass0)))))), fun as R hD He σ Q E k => ?_⟩
  · obtain ⟨p, g, n, st, lv, rfl, _⟩ := hD
    rfl
  · obtain ⟨p, g, n, st, lv, rfl, O, hl, rfl⟩ := hD
    have gl := O.gl
    have nl := O.nl
    have sl := O.S.2
    refine q_setL E (xl_lst xs_nil lenk) fun a σ H e E => ?_
    refine q_for (S := Unit) (fun m s => True) (fun m s => [.play C p (encG g) (encN n) (encSt st) (lv.map .bool), .lst a ((((List.range m).filter fun k => decide (kindOf g k = "given") && canM (stp g k) st.1).map fun g : Nat => ((0, (g : Int)) : Mv)).map encM), .any]) () E (xi_range (xd_len (xd_at (xd_fG (g := encG g) rfl T.cl T.aG) xd_int rfl) (List.length_map _)) (by omega)) trivial (.refl _) (fun _ _ _ _ => trivial) (fun m hm => gok_name) (fun G m s σ H hm is E => ?_) (fun s σ H is E => ?_)
    · have hs := stp_at hm
      have hsp := O.S.at_ hm
      have hw := kind_at O.S hm
      refine s_when E (b := decide (kindOf g m = "given") && canM (stp g m) st.1) (xt_and (xt_test (xd_eqS (xd_at (xd_at (d := encW (g.wires.getD (stp g m).w ("", ""))) (xd_at (xd_fG (g := encG g) rfl T.cl T.aG) xd_int rfl) (xd_at (xd_at (d := encS (stp g m)) (xd_at (xd_fG (g := encG g) rfl T.cl T.aG) xd_int rfl) (xd_var rfl) (getmap hs)) xd_int rfl) (getmap hw)) xd_int rfl) xd_str)) fun h => (xt_B (xd_call (D := D_can) (xa_d (xd_fG rfl T.cl T.aG) (xa_d (xd_fH rfl T.cl T.aH) (xa_d (xd_var rfl) xa_nil))) ⟨_, _, _, _, rfl, hs, hsp, rfl⟩))) (fun hb H e E => ?_) (fun hb H e E => ?_)
      · refine s_app E rfl (xd_tup (xs_cons xd_str (xs_cons (xd_var rfl) xs_nil)) lenk) (by
          rw [List.length_map, List.length_map]
          have := rng_len (p := fun k => decide (kindOf g k = "given") && canM (stp g k) st.1) (m := m)
          omega) fun H E => ⟨(), trivial, ?_⟩
        rw [rng_yes (p := fun k => decide (kindOf g k = "given") && canM (stp g k) st.1) hb, List.map_append, List.map_append]
        exact E.wk (.same (.same (.drop .nil)))
      · refine ⟨(), trivial, ?_⟩
        rw [rng_no (p := fun k => decide (kindOf g k = "given") && canM (stp g k) st.1) hb]
        exact E.wk (.same (.same (.drop .nil)))
    · have cl := called_len (n := n) (c := st.2) (lv := lv)
      unfold movesM at k
      rw [List.map_append] at k
      refine s_retL E (xl_catV rfl (xl_meth (D := D_P_called C) rfl (fun _ _ _ _ => pf_no (by decide +kernel) (by decide +kernel) (by decide +kernel) (by decide +kernel)) xa_nil ⟨_, _, _, _, _, rfl, O, hl, rfl⟩) (by
        have := rng_len (p := fun k => decide (kindOf g k = "given") && canM (stp g k) st.1) (m := g.steps.length)
        rw [List.length_map, List.length_map, List.length_map]
        omega)) k
end

end Q3

namespace Q3
open PySem L2 Evl
/-! ## a Play made: __init__, twin -/
/-- a Play at p, its list of levels at a -/
def PlayX (C : Addr) (H : Hp) (p a : Addr) (g n h : PyData) (ls : List PyData) : Prop :=
  ∃ (dx : Addr) (xs : List V) (vg vn vh : V), H p = some (.ins C dx (pf vg vn vh (.ref a))) ∧ Tp H vg g ∧ Tp H vn n ∧ Tp H vh h ∧ H a = some (.lst xs) ∧ TpAll H xs ls
section
variable {C : Addr} {H H' : Hp} {p a : Addr} {g n h : PyData} {ls : List PyData}
theorem PlayX.at_ (P : PlayX C H p a g n h ls) : PlayAt C H p g n h ls := by
  obtain ⟨dx, xs, vg, vn, vh, h1, h2, h3, h4, h5, h6⟩ := P
  exact ⟨dx, a, xs, vg, vn, vh, h1, h2, h3, h4, h5, h6⟩
theorem PlayX.keep (P : PlayX C H p a g n h ls) (t : TEx H H') (e1 : H' p = H p) (e2 : H' a = H a) : PlayX C H' p a g n h ls := by
  obtain ⟨dx, xs, vg, vn, vh, h1, h2, h3, h4, h5, h6⟩ := P
  exact ⟨dx, xs, vg, vn, vh, by rw [e1]; exact h1, h2.mono t, h3.mono t, h4.mono t, by rw [e2]; exact h5, h6.mono t⟩
theorem PlayX.ex (P : PlayX C H p a g n h ls) (e : Ex H H') : PlayX C H' p a g n h ls := by
  obtain ⟨dx, xs, vg, vn, vh, h1, h2, h3, h4, h5, h6⟩ := P
  exact ⟨dx, xs, vg, vn, vh, e _ _ h1, h2.ex e, h3.ex e, h4.ex e, e _ _ h5, h6.ex e⟩
theorem PlayX.ne (P : PlayX C H p a g n h ls) : p ≠ a := by
  obtain ⟨dx, xs, vg, vn, vh, h1, _, _, _, h5, _⟩ := P
  exact ne_of h1 h5 fun q => nomatch q
theorem PlayX.noP (P : PlayX C H p a g n h ls) {q : Addr} (hq : H q = none) : p ≠ q ∧ a ≠ q := by
  obtain ⟨dx, xs, vg, vn, vh, h1, _, _, _, h5, _⟩ := P
  exact ⟨ne_of_none h1 hq, ne_of_none h5 hq⟩
end
/-- all stands but what is at p and a -/
def But (p a : Addr) (H H' : Hp) : Prop := ∀ b o, H b = some o → b ≠ p → b ≠ a → H' b = some o
/-- another heap, data alone -/
def datOnly : SD → Bool
  | .any => true
  | .dat _ => true
  | _ => false
theorem Env.re {K : PySem.W.Frag} {He H H1 : Hp} {σ : L2.St} {Γ : List SD} {G : List (V × SD)} (E : Env K He H σ Γ G) (t : TEx H H1) (hd : Γ.all datOnly = true) : Env K H1 H1 σ Γ [] := by
  have key : ∀ (i : Nat) (s : SD), Γ[i]? = some s → datOnly s = true := fun i s h => List.all_eq_true.mp hd s (List.mem_of_getElem? h)
  have noad : ∀ s : SD, datOnly s = true → s.ad = none := fun s h => by
    cases s with
    | any => rfl
    | dat d => rfl
    | rdl ds => cases h
    | lst a ds => cases h
    | own a P => cases h
    | play C p g n h' ls => cases h
  refine ⟨Ex.refl _, E.len, fun i s h => ?_, (fun p hp => nomatch hp), fun i j s u a hi hj es eu => ?_, (fun i s a hi es p hp => nomatch hp)⟩
  · rcases E.at_ i s h with z | ⟨v, h1, h2⟩
    · exact .inl z
    · have q := key i s h
      cases s with
      | any => exact .inl rfl
      | dat d => exact .inr ⟨v, h1, Tp.mono t d v h2⟩
      | rdl ds => cases q
      | lst a ds => cases q
      | own a P => cases q
      | play C p g n h' ls => cases q
  · rw [noad s (key i s hi)] at es
    cases es
def beginM (g : Gr) (n : List NetW) : St2 × List Bool := ((g.marks, g.code), (gatesM n).map fun x => upM x.2.2 g.code)
def spP_init (C : Addr) : Sp := fun vs H Q _ => ∃ (p dx : Addr) (vg vn : V) (g : Gr) (n : List NetW), vs = [.ref p, vg, vn] ∧ H p = some (.ins C dx []) ∧ Tp H vg (encG g) ∧ Tp H vn (encN n) ∧ Ok2 g n ∧
  ∀ (a : Addr) (H' : Hp), H a = none → PlayX C H' p a (encG g) (encN n) (encSt (beginM g n).1) ((beginM g n).2.map .bool) → (∀ b o, H b = some o → b ≠ p → H' b = some o) → Q .non H'
theorem put_here {f : Str} {v x : V} {r : List (Str × V)} : putF f v ((f, x) :: r) = (f, v) :: r := if_pos rfl
theorem put_past {f g : Str} {v x : V} {r : List (Str × V)} (h : ¬ g = f) : putF f v ((g, x) :: r) = (g, x) :: putF f v r := if_neg h
theorem nGN : ¬ (("graph" : Str) = "net") := by decide +kernel
theorem nGH : ¬ (("graph" : Str) = "here") := by decide +kernel
theorem nGL : ¬ (("graph" : Str) = "levels") := by decide +kernel
theorem nNH : ¬ (("net" : Str) = "here") := by decide +kernel
theorem nNL : ¬ (("net" : Str) = "levels") := by decide +kernel
theorem nHL : ¬ (("here" : Str) = "levels") := by decide +kernel
theorem put1 {vg : V} : putF "graph" vg [] = ([("graph", vg)] : List (Str × V)) := rfl
theorem put2 {vg vn : V} : putF "net" vn ([("graph", vg)] : List (Str × V)) = ([("graph", vg), ("net", vn)] : List (Str × V)) := put_past nGN
theorem put3 {vg vn vh : V} : putF "here" vh ([("graph", vg), ("net", vn)] : List (Str × V)) = ([("graph", vg), ("net", vn), ("here", vh)] : List (Str × V)) := by rw [put_past nGH, put_past nNH]; rfl
theorem put4 {vg vn vh vl : V} : putF "levels" vl ([("graph", vg), ("net", vn), ("here", vh)] : List (Str × V)) = pf vg vn vh vl := by rw [put_past nGL, put_past nNL, put_past nHL]; rfl
theorem putH {vg vn vh vl v : V} : putF "here" v (pf vg vn vh vl) = pf vg vn v vl := by
  unfold pf
  rw [put_past nGH, put_past nNH, put_here]
theorem putL {vg vn vh vl v : V} : putF "levels" v (pf vg vn vh vl) = pf vg vn vh v := by
  unfold pf
  rw [put_past nGL, put_past nNL, put_past nHL, put_here]
theorem lenk2 {α β : Type} {a : List α} {b : List β} (h : Nat.ble a.length b.length = true := by rfl) : a.length ≤ b.length := Nat.le_of_ble_eq_true h
section
variable {P : Program} {w : World} {K : PySem.W.Frag} {mg : Str → Option Value} {base : Heap} {C : Addr} {f : Nat → Addr} {fd : Nat → FuncData} {xc : Nat → Addr}
theorem ok_P_init (T : Top K mg C f fd xc) : FnOk P w K mg base CX0 3 (f 10) (fd 10) ["self", "graph", "net"] (spP_init C) := by
  refine T.P_init.F.ok sc_P_init (fun vs H Q E h => ?_) (fun cdv A outer s H vs Q E hr h => ⟨_, (pss_cons (ps_fld (pv 0) (pv 1) rfl)
  (pss_cons (ps_fld (pv 0) (pv 2) rfl)
  (pss_cons (ps_fld (pv 0) (pe_tup (pa_cons (pe_ix ix_tup (pv 1) pe_int (fun _ _ => rfl)) (pa_cons (pe_ix ix_tup (pv 1) pe_int (fun _ _ => rfl)) pa_nil))) rfl)
  (pss_one (ps_fld (pv 0) (pe_lc (own := [("wire", 3), ("rise", 4), ("gate", 5)]) (by rfl) sc_P_init.nd (pi_list (pe_call (ok_gates_of T) (hr.mono (by decide)) (by rfl) T.gates_of.m T.gates_of.F.kp T.gates_of.b .nil pass0 (pa_cons (pv 2) pa_nil))) (blkOk_by (own := [("wire", 3), ("rise", 4), ("gate", 5)]) (N := N_P_init) (sc := defScope s_P_init) (by decide +kernel)) (fun _ _ _ _ _ => (pg_tupK K 3 rfl (pgs_cons (pg_name (i := 3) sc_P_init.nd rfl (Or.inl rfl)) (pgs_cons (pg_name (i := 4) sc_P_init.nd rfl (Or.inl rfl)) (pgs_cons (pg_name (i := 5) sc_P_init.nd rfl (Or.inl rfl)) pgs_nil))))) (fun _ _ _ _ _ => pts_nil) (fun _ _ _ _ _ => (pe_call (ok_is_up T) (hr.mono (by decide)) (by rfl) T.is_up.m T.is_up.F.kp T.is_up.b .nil pass0 (pa_cons (pv 5) (pa_cons (pe_ix (ix_tupK K) (pv 1) pe_int (fun _ _ => rfl)) pa_nil))))) rfl))))), ?_⟩)
  · obtain ⟨p, dx, vg, vn, g, n, rfl, _⟩ := h
    rfl
  · obtain ⟨p, dx, vg, vn, g, n, rfl, hp, tg, tn, O, k⟩ := h
    have E0 : Q3.Env K H H (L2.start N_P_init [.ref p, vg, vn]) [.any, .dat (encG g), .dat (encN n), .any, .any, .any] [] := env_start (as := [.any, .dat (encG g), .dat (encN n)]) (.cons trivial (.cons tg (.cons tn .nil))) lenk2
    refine ⟨_, rfl, _, rfl, p, C, dx, [], rfl, hp, T.cl, T.aG, (by show 0 < 1000; decide), ?_⟩
    rw [put1]
    have t1 : TEx H (upd H p (.ins C dx [("graph", vg)])) := te_upd hp rfl
    generalize hH1 : upd H p (.ins C dx [("graph", vg)]) = H1 at t1
    have hp1 : H1 p = some (.ins C dx [("graph", vg)]) := by rw [← hH1]; exact upd_same
    refine ⟨_, rfl, _, rfl, p, C, dx, _, rfl, hp1, T.cl, T.aN, (by show 1 < 1000; decide), ?_⟩
    rw [put2]
    have t2 : TEx H (upd H1 p (.ins C dx [("graph", vg), ("net", vn)])) := t1.trans (te_upd hp1 rfl)
    generalize hH2 : upd H1 p (.ins C dx [("graph", vg), ("net", vn)]) = H2 at t2
    have hp2 : H2 p = some (.ins C dx [("graph", vg), ("net", vn)]) := by rw [← hH2]; exact upd_same
    have f2 : ∀ b o, H b = some o → b ≠ p → H2 b = some o := fun b o e hb => by
      rw [← hH2, upd_ne hb, ← hH1, upd_ne hb]
      exact e
    have E2 := E0.re t2 rfl
    refine q_fld (d := encSt (g.marks, g.code)) E2 (xd_tup (xs_cons (xd_at (xd_var rfl) xd_int rfl) (xs_cons (xd_at (xd_var rfl) xd_int rfl) xs_nil)) lenk) rfl hp2 T.cl T.aH (by show 2 < 1000; decide) fun vh H3 e3 th => ?_
    have hp3 := e3 _ _ hp2
    rw [put3]
    have t4 : TEx H (upd H3 p (.ins C dx [("graph", vg), ("net", vn), ("here", vh)])) := (t2.trans (te_of e3)).trans (te_upd hp3 rfl)
    have th4 : Tp (upd H3 p (.ins C dx [("graph", vg), ("net", vn), ("here", vh)])) vh (encSt (g.marks, g.code)) := th.mono (te_upd hp3 rfl)
    generalize hH4 : upd H3 p (.ins C dx [("graph", vg), ("net", vn), ("here", vh)]) = H4 at t4 th4
    have hp4 : H4 p = some (.ins C dx [("graph", vg), ("net", vn), ("here", vh)]) := by rw [← hH4]; exact upd_same
    have f4 : ∀ b o, H b = some o → b ≠ p → H4 b = some o := fun b o e hb => by
      rw [← hH4, upd_ne hb]
      exact e3 _ _ (f2 b o e hb)
    have E4 := E0.re t4 rfl
    have gl := O.gl
    refine s_fldL (ds := (gatesM n).map fun x => PyData.bool (upM x.2.2 g.code)) E4 (xl_lcAll (l := gatesM n) (fun x => .bool (upM x.2.2 g.code)) (xi_encN (0, false, []) (xl_call (D := D_gates_of) (xa_d (xd_var rfl) xa_nil) ⟨_, rfl, O.gl, rfl⟩)) rfl (by omega) trivial fun m x hx => ⟨_, _, (by rw [getD_of _ hx]; exact gok3), by decide, xd_call (D := D_is_up) (xa_d (xd_var rfl) (xa_d (xd_at (d := nat g.code) (xd_var rfl) xd_int rfl) xa_nil)) ⟨_, _, rfl, rfl⟩⟩) rfl hp4 T.cl T.aL (by show 3 < 1000; decide) fun a xs H5 e5 n5 l5 t5 => ?_
    have hp5 := e5 _ _ hp4
    rw [put4]
    have te5 : TEx H5 (upd H5 p (.ins C dx (pf vg vn vh (.ref a)))) := te_upd hp5 rfl
    have npa : a ≠ p := ne_of l5 hp5 fun q => nomatch q
    have na : H a = none := by
      cases q : H a with
      | none => rfl
      | some o =>
        have z := f4 a o q npa
        rw [n5] at z
        cases z
    refine k a _ na ⟨dx, xs, vg, vn, vh, upd_same, ((tg.mono t4).ex e5).mono te5, ((tn.mono t4).ex e5).mono te5, (th4.ex e5).mono te5, by rw [upd_ne npa]; exact l5, ?_⟩ fun b o e hb => ?_
    · have e6 : (beginM g n).2.map PyData.bool = (gatesM n).map fun x => PyData.bool (upM x.2.2 g.code) := by
        show ((gatesM n).map fun x => upM x.2.2 g.code).map PyData.bool = _
        rw [List.map_map]
        rfl
      rw [e6]
      exact t5.mono te5
    · rw [upd_ne hb]
      exact e5 _ _ (f4 b o e hb)
def spP_twin (C : Addr) : Sp := fun vs H Q _ => ∃ (p a : Addr) (g : Gr) (n : List NetW) (st : St2) (lv : List Bool), vs = [.ref p] ∧ PlayX C H p a (encG g) (encN n) (encSt st) (lv.map .bool) ∧ Ok2 g n ∧
  ∀ (p' a' : Addr) (H' : Hp), H p' = none → H a' = none → Ex H H' → PlayX C H' p' a' (encG g) (encN n) (encSt st) (lv.map .bool) → Q (.ref p') H'
theorem ok_P_twin (T : Top K mg C f fd xc) : FnOk P w K mg base CX0 5 (f 16) (fd 16) ["self"] (spP_twin C) := by
  refine T.P_twin.F.ok sc_P_twin (fun vs H Q E h => ?_) (fun cdv A outer s H vs Q E hr h => ⟨_, (pss_cons (ps_set (i := 1) sc_P_twin.nd rfl (Or.inl rfl) (pe_make T.mkC (ok_P_init T) (hr.mono (by decide)) rfl T.gC T.P_init.b .nil pass0 (pa_cons (pe_fld (pv 0) rfl) (pa_cons (pe_fld (pv 0) rfl) pa_nil))))
  (pss_cons (ps_fld (pv 1) (pe_fld (pv 0) rfl) rfl)
  (pss_cons (ps_fld (pv 1) (pe_callTy call_list_of (by rfl) T.n_list (by decide +kernel) (pa_cons (pe_fld (pv 0) rfl) pa_nil)) rfl)
  (pss_one (ps_ret (pv 1)))))), ?_⟩)
  · obtain ⟨p, a, g, n, st, lv, rfl, _⟩ := h
    rfl
  · obtain ⟨p, a, g, n, st, lv, rfl, hX, O, k⟩ := h
    have E0 : Q3.Env K H H (L2.start N_P_twin [.ref p]) [.play C p (encG g) (encN n) (encSt st) (lv.map .bool), .any] [] := env_start (as := [.play C p (encG g) (encN n) (encSt st) (lv.map .bool)]) (.cons ⟨rfl, hX.at_⟩ .nil) lenk2
    obtain ⟨dx, xs, vg, vn, vh, h1, h2, h3, h4, h5, h6⟩ := id hX
    refine ⟨_, rfl, p, C, dx, _, _, rfl, h1, T.cl, T.aG, lkG, _, rfl, p, C, dx, _, _, rfl, h1, T.cl, T.aN, lkN, ?_⟩
    intro x dx' nx ndx nex
    have e0 : Ex H (upd (upd H dx' (.own x)) x (.ins C dx' [])) := fun b o e => by
      rw [upd_ne (ne_of_none e nx), upd_ne (ne_of_none e ndx)]
      exact e
    refine ⟨x, dx', vg, vn, g, n, rfl, upd_same, h2.ex e0, h3.ex e0, O, fun a0 H1 na0 P1 fr => ⟨rfl, ?_⟩⟩
    have e1 : Ex H H1 := fun b o e => fr b o (e0 b o e) (ne_of_none e nx)
    obtain ⟨dx1, xs1, vg1, vn1, vh1, g1, g2, g3, g4, g5, g6⟩ := P1
    refine ⟨_, rfl, p, C, dx, _, _, rfl, e1 _ _ h1, T.cl, T.aH, lkH, _, rfl, x, C, dx1, _, rfl, g1, T.cl, T.aH, (by show 4 < 1000; decide), ?_⟩
    rw [putH]
    have t2 : TEx H1 (upd H1 x (.ins C dx1 (pf vg1 vn1 vh (.ref a0)))) := te_upd g1 rfl
    have hpx : p ≠ x := ne_of_none h1 nx
    have e2 : Ex H (upd H1 x (.ins C dx1 (pf vg1 vn1 vh (.ref a0)))) := e1.mut nx
    refine ⟨_, rfl, p, C, dx, _, _, rfl, e2 _ _ h1, T.cl, T.aL, lkL, a, xs, rfl, Or.inl (sq_of (e2 _ _ h5)), fun l hl => ?_⟩
    have nl : H l = none := fresh_back e2 hl
    have hxl : x ≠ l := ne_of_none (H := upd H1 x (.ins C dx1 (pf vg1 vn1 vh (.ref a0)))) upd_same hl
    have g1' : (upd (upd H1 x (.ins C dx1 (pf vg1 vn1 vh (.ref a0)))) l (.lst xs)) x = some (.ins C dx1 (pf vg1 vn1 vh (.ref a0))) := by
      rw [upd_ne hxl]
      exact upd_same
    refine ⟨_, rfl, x, C, dx1, _, rfl, g1', T.cl, T.aL, (by show 4 < 1000; decide), ?_⟩
    rw [putL]
    have e3 : Ex H (upd (upd H1 x (.ins C dx1 (pf vg1 vn1 vh (.ref a0)))) l (.lst xs)) := e2.trans (Ex.new hl)
    have t3 : TEx H1 (upd (upd H1 x (.ins C dx1 (pf vg1 vn1 vh (.ref a0)))) l (.lst xs)) := t2.trans (te_of (Ex.new hl))
    have t4 := t3.trans (te_upd (o' := .ins C dx1 (pf vg1 vn1 vh (.ref l))) g1' rfl)
    have e4 : Ex H (upd (upd (upd H1 x (.ins C dx1 (pf vg1 vn1 vh (.ref a0)))) l (.lst xs)) x (.ins C dx1 (pf vg1 vn1 vh (.ref l)))) := e3.mut nx
    refine ⟨_, rfl, ?_⟩
    refine k x l _ nx nl e4 ⟨dx1, xs, vg1, vn1, vh, upd_same, g2.mono t4, g3.mono t4, h4.ex e4, ?_, h6.ex e4⟩
    rw [upd_ne hxl.symm]
    exact upd_same
end

end Q3

namespace Q3
open PySem L2 Evl
/-! ## data compared -/
def Shp (d : PyData) (n : Nat) : Prop := d.canLay0 = true ∧ d.depth ≤ n
theorem Shp.ok {d : PyData} {n : Nat} (h : Shp d n) (hn : n ≤ 64) : SeqAt.shaped d = true := by
  unfold SeqAt.shaped
  rw [h.1, decide_eq_true (Nat.le_trans h.2 hn)]
  rfl
theorem shp_int {i : Int} {n : Nat} : Shp (.int i) n := ⟨by simp [PyData.canLay0], by simp [PyData.depth]⟩
theorem shp_bool {i : Bool} {n : Nat} : Shp (.bool i) n := ⟨by simp [PyData.canLay0], by simp [PyData.depth]⟩
theorem shp_none {n : Nat} : Shp .none n := ⟨by simp [PyData.canLay0], by simp [PyData.depth]⟩
theorem shp_str {x : Str} {n : Nat} (h : PyData.strOk x = true) : Shp (.str x) n := ⟨by simp [PyData.canLay0, h], by simp [PyData.depth]⟩
theorem shp_all {n : Nat} : ∀ {ds : List PyData}, (∀ d ∈ ds, Shp d n) → PyData.canLayAll0 ds = true ∧ PyData.depthAll ds ≤ n
  | [], _ => ⟨by simp [PyData.canLayAll0], by simp [PyData.depthAll]⟩
  | d :: ds, h => by
    obtain ⟨h1, h2⟩ := h d List.mem_cons_self
    obtain ⟨h3, h4⟩ := shp_all (n := n) (ds := ds) fun x hx => h x (List.mem_cons_of_mem _ hx)
    refine ⟨by simp [PyData.canLayAll0, h1, h3], ?_⟩
    simp only [PyData.depthAll]
    omega
theorem shp_tup {ds : List PyData} {n : Nat} (h : ∀ d ∈ ds, Shp d n) : Shp (.tuple ds) (n + 1) := by
  obtain ⟨h1, h2⟩ := shp_all h
  exact ⟨by simp [PyData.canLay0, h1], by simp only [PyData.depth]; omega⟩
theorem shp_list {ds : List PyData} {n : Nat} (h : ∀ d ∈ ds, Shp d n) : Shp (.list ds) (n + 1) := by
  obtain ⟨h1, h2⟩ := shp_all h
  exact ⟨by simp [PyData.canLay0, h1], by simp only [PyData.depth]; omega⟩
theorem shp_map {α : Type} {l : List α} {f : α → PyData} {n : Nat} (h : ∀ x, Shp (f x) n) : ∀ d ∈ l.map f, Shp d n := fun d hd => by
  obtain ⟨x, _, rfl⟩ := List.mem_map.mp hd
  exact h x
theorem eqvAll_map {α : Type} [DecidableEq α] {f : α → PyData} : ∀ {l l' : List α}, (∀ a ∈ l, ∀ b ∈ l', PyData.eqv (f a) (f b) = decide (a = b)) → PyData.eqvAll (l.map f) (l'.map f) = decide (l = l')
  | [], [], _ => by simp [PyData.eqvAll]
  | [], _ :: _, _ => by simp [PyData.eqvAll]
  | _ :: _, [], _ => by simp [PyData.eqvAll]
  | a :: l, b :: l', h => by
    have h1 := h a List.mem_cons_self b List.mem_cons_self
    have h2 := eqvAll_map (l := l) (l' := l') fun x hx y hy => h x (List.mem_cons_of_mem _ hx) y (List.mem_cons_of_mem _ hy)
    simp only [List.map_cons, PyData.eqvAll, h1, h2, List.cons.injEq]
    by_cases e1 : a = b <;> by_cases e2 : l = l' <;> simp [e1, e2]
theorem eqv_nat (a b : Nat) : PyData.eqv (nat a) (nat b) = decide (a = b) := by
  simp only [PyData.eqv]
  by_cases h : a = b
  · simp [h]
  · rw [decide_eq_false h]
    exact beq_eq_false_iff_ne.mpr (by omega)
theorem eqv_int (a b : Int) : PyData.eqv (.int a) (.int b) = decide (a = b) := by
  simp only [PyData.eqv]
  by_cases h : a = b
  · simp [h]
  · rw [decide_eq_false h]
    exact beq_eq_false_iff_ne.mpr h
/-- moves -/
def MvOk (m : Mv) : Prop := m.1 ≤ 2
theorem wd01 : ("step" : Str) ≠ "gate" := by decide +kernel
theorem wd02 : ("step" : Str) ≠ "wire" := by decide +kernel
theorem wd12 : ("gate" : Str) ≠ "wire" := by decide +kernel
theorem wd_inj {a b : Nat} (ha : a ≤ 2) (hb : b ≤ 2) (h : wd a = wd b) : a = b := by
  match a, b, ha, hb with
  | 0, 0, _, _ => rfl
  | 0, 1, _, _ => exact absurd h wd01
  | 0, 2, _, _ => exact absurd h wd02
  | 1, 0, _, _ => exact absurd h.symm wd01
  | 1, 1, _, _ => rfl
  | 1, 2, _, _ => exact absurd h wd12
  | 2, 0, _, _ => exact absurd h.symm wd02
  | 2, 1, _, _ => exact absurd h.symm wd12
  | 2, 2, _, _ => rfl
  | a + 3, _, ha, _ => omega
  | _, b + 3, _, hb => omega
theorem eqvM {m m' : Mv} (h : MvOk m) (h' : MvOk m') : PyData.eqv (encM m) (encM m') = decide (m = m') := by
  obtain ⟨a, i⟩ := m
  obtain ⟨b, j⟩ := m'
  show PyData.eqv (.tuple [.str (wd a), .int i]) (.tuple [.str (wd b), .int j]) = _
  simp only [PyData.eqv, PyData.eqvAll, Bool.and_true]
  by_cases e1 : a = b
  · subst e1
    by_cases e2 : i = j
    · subst e2
      simp
    · have z : (i == j) = false := beq_eq_false_iff_ne.mpr e2
      rw [z, Bool.and_false, decide_eq_false (fun q => e2 (congrArg Prod.snd q))]
  · have z : (wd a == wd b) = false := beq_eq_false_iff_ne.mpr fun q => e1 (wd_inj h h' q)
    rw [z, Bool.false_and, decide_eq_false (fun q => e1 (congrArg Prod.fst q))]
theorem strOk_wd (a : Nat) : PyData.strOk (wd a) = true := by
  match a with
  | 0 => decide +kernel
  | 1 => decide +kernel
  | a + 2 => show PyData.strOk "wire" = true; decide +kernel
theorem shpM (m : Mv) : Shp (encM m) 1 := shp_tup fun d hd => by
  rcases List.mem_cons.mp hd with rfl | hd
  · exact shp_str (strOk_wd _)
  · rcases List.mem_cons.mp hd with rfl | hd
    · exact shp_int
    · cases hd
theorem shM (m : Mv) : SeqAt.shaped (encM m) = true := (shpM m).ok (by decide)
theorem shMs (l : List Mv) : SeqAt.shaped (.list (l.map encM)) = true := (shp_list (shp_map fun m => shpM m)).ok (by decide)
theorem anyM {m : Mv} {l : List Mv} (h : MvOk m) (hl : ∀ x ∈ l, MvOk x) : ((l.map encM).any fun z => PyData.eqv z (encM m)) = decide (m ∈ l) := by
  induction l with
  | nil => simp
  | cons x l ih =>
    rw [List.map_cons, List.any_cons, ih fun y hy => hl y (List.mem_cons_of_mem _ hy), eqvM (hl x List.mem_cons_self) h]
    by_cases e : x = m
    · simp [e]
    · by_cases q : m ∈ l
      · simp [q]
      · have : ¬ m = x := fun z => e z.symm
        simp [e, q, this]
theorem eqvMs {l l' : List Mv} (hl : ∀ x ∈ l, MvOk x) (hl' : ∀ x ∈ l', MvOk x) : PyData.eqv (.list (l.map encM)) (.list (l'.map encM)) = decide (l = l') := by
  simp only [PyData.eqv]
  exact eqvAll_map fun a ha b hb => eqvM (hl a ha) (hl' b hb)
theorem okCalled {n : List NetW} {c : Nat} {lv : List Bool} : ∀ x ∈ calledM n c lv, MvOk x := fun x hx => by
  unfold calledM calledG calledW at hx
  rcases List.mem_append.mp hx with h | h
  · obtain ⟨y, _, rfl⟩ := List.mem_map.mp h
    show 1 ≤ 2
    decide
  · obtain ⟨y, _, rfl⟩ := List.mem_map.mp h
    show 2 ≤ 2
    decide
theorem okMoves {g : Gr} {n : List NetW} {d : St2 × List Bool} : ∀ x ∈ movesM g n d, MvOk x := fun x hx => by
  unfold movesM stepsM at hx
  rcases List.mem_append.mp hx with h | h
  · obtain ⟨y, _, rfl⟩ := List.mem_map.mp h
    show 0 ≤ 2
    decide
  · exact okCalled x h
/-- what a move in the list is -/
theorem moves_mem {g : Gr} {n : List NetW} {d : St2 × List Bool} {m : Mv} (h : m ∈ movesM g n d) :
    (∃ k : Nat, m = (0, (k : Int)) ∧ k < g.steps.length ∧ canM (stp g k) d.1.1 = true) ∨ (∃ k : Nat, m = (1, (k : Int)) ∧ k < (gatesM n).length) ∨ (∃ x ∈ n, m = (2, (x.1 : Int))) := by
  unfold movesM stepsM calledM calledG calledW at h
  rcases List.mem_append.mp h with h | h
  · obtain ⟨k, hk, rfl⟩ := List.mem_map.mp h
    obtain ⟨h1, h2⟩ := List.mem_filter.mp hk
    rw [Bool.and_eq_true] at h2
    exact .inl ⟨k, rfl, List.mem_range.mp h1, h2.2⟩
  · rcases List.mem_append.mp h with h | h
    · obtain ⟨k, hk, rfl⟩ := List.mem_map.mp h
      exact .inr (.inl ⟨k, rfl, List.mem_range.mp (List.mem_filter.mp hk).1⟩)
    · obtain ⟨x, hx, rfl⟩ := List.mem_map.mp h
      exact .inr (.inr ⟨x, (List.mem_filter.mp hx).1, rfl⟩)

end Q3

namespace Q3
open PySem L2 Evl
/-! ## a Play's go -/
section
open PySem PySem.Spec PyProof.Rows
variable {X : Cx} {C : Addr} {bmB : List Value} {B newId initId : String}
/-- X() -/
theorem pmk_own0 {x : Str} {p pos : Pos} (F : ExcBaseFacts B newId initId bmB) (q : PySem.W.excIn X.K C bmB newId = true) (gC : X.mg x = some (.ref C)) (kC : PySem.W.keepIn X.K (.ref C) = true) (r : Raises X (.ref C)) (hg : Gl X x)
    (hdb : (x == ("__debug__" : Str)) = false := by decide) : PMk X (.Call (.Name x p) [] [] pos) (fun _ H Q => Q (.ref C) none H) := by
  intro pins s σ H Q I h
  refine wpAny_Call_Name_kw (ld_glob I hg gC ?_ hdb)
  refine PySem.W.callWith_K0 I.kIn kC ?_
  obtain ⟨bm, N, nm, qn, bs, hdct, sn, sub, ab, col, dd, k0, k1, k2, k3, k5, mN, hC, hN, hni, T⟩ := exc_obj I.kIn q
  refine wpAny_call_exc_subT F T hC hN hni (fun h' e hm => ?_) (Nat.zero_le _)
  exact mk_of I hm r h (I.hok.gone hm.new)
end
/-- what is told, as it lies: a list within is new -/
def ToldAt (H H' : Hp) (v : V) : Told → Prop
  | .non => v = .non
  | .astray w => Tp H' v (.tuple [.str "astray", .int w])
  | .vanished l => ∃ b c xs, v = .ref b ∧ H' b = some (.tup [.str "vanished", .ref c]) ∧ H' c = some (.lst xs) ∧ TpAll H' xs (l.map encM) ∧ H b = none ∧ H c = none
def SafeAt (g : Gr) (st : St2) : Prop := ∀ k, k < g.steps.length → canM (stp g k) st.1 = true → safe (stp g k) st
def spP_go (C CN : Addr) : Sp := fun vs H Q E => ∃ (p a : Addr) (vm : V) (g : Gr) (n : List NetW) (st : St2) (lv : List Bool) (m : Mv), vs = [.ref p, vm] ∧ PlayX C H p a (encG g) (encN n) (encSt st) (lv.map .bool) ∧ Tp H vm (encM m) ∧
  Ok2 g n ∧ (gatesM n).length = lv.length ∧ SafeAt g st ∧ MvOk m ∧
  (m ∉ movesM g n (st, lv) → ∀ H', Ex H H' → E (.ref CN) none H') ∧
  (m ∈ movesM g n (st, lv) → ∀ v H', But p a H H' → PlayX C H' p a (encG g) (encN n) (encSt (goM g n (st, lv) m).1.1) ((goM g n (st, lv) m).1.2.map .bool) → ToldAt H H' v (goM g n (st, lv) m).2 → TEx H H' → Q v H')
theorem Env.re3 {K : PySem.W.Frag} {He H H1 : Hp} {σ : L2.St} {C p aa : Addr} {g n h g' n' h' dm : PyData} {ls ls' ds : List PyData} {s3 : SD} {G : List (V × SD)}
    (E : Env K He H σ [.play C p g n h ls, .dat dm, .lst aa ds, s3, .any, .any, .any] G) (t : TEx H H1) (ha : H1 aa = H aa) (hp : PlayAt C H1 p g' n' h' ls') :
    Env K H1 H1 σ [.play C p g' n' h' ls', .dat dm, .rdl (ds), .any, .any, .any, .any] [] := by
  refine ⟨Ex.refl _, E.len, fun i s hs => ?_, (fun p hp => nomatch hp), fun i j s u a hi hj es eu => ?_, (fun i s a hi es p hp => nomatch hp)⟩
  · match i, hs with
    | 0, hs =>
      cases hs
      rcases E.at_ 0 _ rfl with z | ⟨v, h1, h2, _⟩
      · cases z
      · exact .inr ⟨v, h1, h2, hp⟩
    | 1, hs =>
      cases hs
      rcases E.at_ 1 _ rfl with z | ⟨v, h1, h2⟩
      · cases z
      · exact .inr ⟨v, h1, Tp.mono t _ _ h2⟩
    | 2, hs =>
      cases hs
      rcases E.at_ 2 _ rfl with z | ⟨v, h1, h2, _, xs, h3, h4⟩
      · cases z
      · exact .inr ⟨v, h1, aa, xs, h2, sq_of (by rw [ha]; exact h3), h4.mono t⟩
    | 3, hs => cases hs; exact .inl rfl
    | 4, hs => cases hs; exact .inl rfl
    | 5, hs => cases hs; exact .inl rfl
    | 6, hs => cases hs; exact .inl rfl
    | i + 7, hs => simp at hs
  · match i, hi with
    | 0, hi => cases hi; cases es
    | 1, hi => cases hi; cases es
    | 2, hi => cases hi; cases es
    | 3, hi => cases hi; cases es
    | 4, hi => cases hi; cases es
    | 5, hi => cases hi; cases es
    | 6, hi => cases hi; cases es
    | i + 7, hi => simp at hi
theorem But.of {p a : Addr} {H H' : Hp} (e : Ex H H') : But p a H H' := fun b o h _ _ => e b o h
theorem But.ex {p a : Addr} {H H' H2 : Hp} (b : But p a H H') (e : Ex H' H2) : But p a H H2 := fun c o h n1 n2 => e c o (b c o h n1 n2)
theorem But.upd {p a q : Addr} {H H' : Hp} {o : HO} (b : But p a H H') (hq : q = p ∨ q = a) : But p a H (upd H' q o) := fun c u h n1 n2 => by
  have z : c ≠ q := fun e => by
    rcases hq with rfl | rfl
    · exact n1 e
    · exact n2 e
  rw [upd_ne z]
  exact b c u h n1 n2
theorem But.fresh {p a c : Addr} {H H' : Hp} (b : But p a H H') (hp : H' p ≠ none) (ha : H' a ≠ none) (h : H' c = none) : H c = none := by
  cases q : H c with
  | none => rfl
  | some o =>
    by_cases e1 : c = p
    · rw [e1] at h
      exact absurd h hp
    · by_cases e2 : c = a
      · rw [e2] at h
        exact absurd h ha
      · rw [b c o q e1 e2] at h
        cases h
section
variable {P : Program} {w : World} {K : PySem.W.Frag} {mg : Str → Option Value} {base : Heap} {C : Addr} {f : Nat → Addr} {fd : Nat → FuncData} {xc : Nat → Addr}
theorem go_len {n : List NetW} {c : Nat} {lv : List Bool} (O1 : (gatesM n).length ≤ 50000) (O2 : n.length ≤ 10000) : (calledM n c lv).length ≤ 100000 := by
  have := called_len (n := n) (c := c) (lv := lv)
  omega
set_option maxHeartbeats 8000000 in
theorem ok_P_go (T : Top K mg C f fd xc) : FnOk P w K mg base (L2.CX P w) 5 (f 15) (fd 15) ["self", "move"] (spP_go C (xc 7)) := by
  refine T.P_go.F.okX sc_P_go (fun vs H Q E h => ?_) (fun cdv A outer s H vs Q E hr h => ⟨_, (pss_cons (ps_if (pt_cmpR (op_notInD (hu65 hr)) (pv 1) (pe_meth0 (pv 0) T.cl T.P_moves_m (ok_P_moves T) (hr.mono (by decide)) T.P_moves.b .nil pass0) (by rfl)) (pss_one (ps_raise rfl (takes_of rfl rfl rfl rfl) (pmk_own0 PySem.F.excBase_ValueError T.xN T.g7 T.kN (raises_own T.bN T.tN) (by exact rfl)))) pss_nil)
  (pss_cons (ps_set (i := 2) sc_P_go.nd rfl (Or.inl rfl) (pe_meth0 (pv 0) T.cl T.P_called_m (ok_P_called T) (hr.mono (by decide)) T.P_called.b .nil pass0))
  (pss_cut (ps_if (pt_cmpR op_eq (pe_ix ix_tup (pv 1) pe_int (fun _ _ => rfl)) pe_str (nomark _)) (pss_one (ps_asg (pe_not (pe_ix ix_list (pe_fld (pv 0) rfl) (pe_ix ix_tup (pv 1) pe_int (fun _ _ => rfl)) (fun _ _ => rfl))) (pg_sub (pe_fld (pv 0) rfl) (pe_ix ix_tup (pv 1) pe_int (fun _ _ => rfl)) set_list))) (pss_one (ps_if (pt_cmpR op_eq (pe_ix ix_tup (pv 1) pe_int (fun _ _ => rfl)) pe_str (nomark _)) (pss_one (ps_fld (pv 0) (pe_call (ok_behind T) (hr.mono (by decide)) (by rfl) T.behind.m T.behind.F.kp T.behind.b .nil pass0 (pa_cons (pe_fld (pv 0) rfl) (pa_cons (pe_fld (pv 0) rfl) (pa_cons (pe_ix ix_tup (pv 1) pe_int (fun _ _ => rfl)) pa_nil)))) rfl)) (pss_cons (ps_set (i := 3) sc_P_go.nd rfl (Or.inl rfl) (pe_call (ok_step_for T) (hr.mono (by decide)) (by rfl) T.step_for.m T.step_for.F.kp T.step_for.b .nil pass0 (pa_cons (pe_fld (pv 0) rfl) (pa_cons (pe_fld (pv 0) rfl) (pa_cons (pe_ix ix_tup (pv 1) pe_int (fun _ _ => rfl)) pa_nil)))))
  (pss_cons (ps_if (pt_cmpR op_isN (pv 3) pe_non (nomark _)) (pss_one (ps_ret (pe_tup (pa_cons pe_str (pa_cons (pe_ix ix_tup (pv 1) pe_int (fun _ _ => rfl)) pa_nil))))) pss_nil)
  (pss_one (ps_fld (pv 0) (pe_call (ok_behind T) (hr.mono (by decide)) (by rfl) T.behind.m T.behind.F.kp T.behind.b .nil pass0 (pa_cons (pe_fld (pv 0) rfl) (pa_cons (pe_fld (pv 0) rfl) (pa_cons (pv 3) pa_nil)))) rfl)))))))
  (pss_cons (ps_set (i := 4) sc_P_go.nd rfl (Or.inr rfl) (pe_meth0 (pv 0) T.cl T.P_called_m (ok_P_called T) (hr.mono (by decide)) T.P_called.b .nil pass0))
  (pss_cons (ps_setLc (i := 5) (own := [("one", 6)]) rfl sc_P_go.nd rfl rfl (sw_true rfl rfl rfl (by decide +kernel)) (pi_list (pv 2)) (blkOk_by (own := [("one", 6)]) (N := N_P_go) (sc := defScope s_P_go) (by decide +kernel)) (fun _ _ _ _ _ => (pg_name (i := 6) sc_P_go.nd rfl (Or.inl rfl))) (fun _ _ _ _ _ => (pts_one (PW.pt (pw_and (pt_cmpR (op_neDK K hr.units) (pv 6) (pv 1) (nomark _)) (pw_and1 (pt_cmpR (op_notInDK K (hu65 hr)) (pv 6) (pv 4) (by rfl))))))) (fun _ _ _ _ _ => (pv 6)))
  (pss_cons (ps_if (pt_cmpR op_gt (pe_callB call_len_seq (by rfl) T.n_len (by decide +kernel) (pa_cons (pv 5) pa_nil)) pe_int (nomark _)) (pss_one (ps_ret (pe_tup (pa_cons pe_str (pa_cons (pv 5) pa_nil))))) pss_nil)
  (pss_one (ps_ret pe_non)))))))), ?_⟩)
  · obtain ⟨p, a, vm, g, n, st, lv, m, rfl, _⟩ := h
    rfl
  · obtain ⟨p, a, vm, g, n, st, lv, m, rfl, hX, tm, O, hl, hsf, hm2, kE, kQ⟩ := h
    have E0 : Q3.Env K H H (L2.start N_P_go [.ref p, vm]) [.play C p (encG g) (encN n) (encSt st) (lv.map .bool), .dat (encM m), .any, .any, .any, .any, .any] [] := env_start (as := [.play C p (encG g) (encN n) (encSt st) (lv.map .bool), .dat (encM m)]) (.cons ⟨rfl, hX.at_⟩ (.cons tm .nil)) lenk2
    refine q_when (b := !decide (m ∈ movesM g n (st, lv))) E0 (xt_test (xd_is (xd_niD (d := encM m) (xd_var rfl) (xr_new (xl_meth (D := D_P_moves C) rfl (fun _ _ _ _ => pf_no (by decide +kernel) (by decide +kernel) (by decide +kernel) (by decide +kernel)) xa_nil ⟨_, _, _, _, _, rfl, O, hl, rfl⟩)) (shM m) (shMs _)) (by rw [anyM hm2 okMoves]))) (fun hb H1 e1 E1 => ?_) (fun hb H1 e1 E1 => ?_)
    · refine kE (fun z => ?_) H1 e1
      rw [decide_eq_true z] at hb
      cases hb
    · have hm : m ∈ movesM g n (st, lv) := by
        by_cases z : m ∈ movesM g n (st, lv)
        · exact z
        · rw [decide_eq_false z] at hb
          cases hb
      have hgo := kQ hm
      clear kE kQ
      refine q_setL E1 (xl_meth (D := D_P_called C) rfl (fun _ _ _ _ => pf_no (by decide +kernel) (by decide +kernel) (by decide +kernel) (by decide +kernel)) xa_nil ⟨_, _, _, _, _, rfl, O, hl, rfl⟩) fun aa σ H2 e2 E2 => ?_
      have hX2 := hX.ex (e1.trans e2)
      have b2 : But p a H H2 := But.of (e1.trans e2)
      have ste : TEx H H2 := te_of (e1.trans e2)
      have naa : aa ≠ p ∧ aa ≠ a := by
        rcases E2.at_ 2 _ rfl with z | ⟨v, h1, h2, h3, _⟩
        · cases z
        · obtain ⟨q1, q2⟩ := hX.noP h3
          exact ⟨q1.symm, q2.symm⟩
      refine ⟨fun σ' H' => ∃ (st' : St2) (lv' : List Bool), goM g n (st, lv) m = ((st', lv'), toldM n (st, lv) (st', lv') m) ∧ lv'.length = lv.length ∧ PlayX C H' p a (encG g) (encN n) (encSt st') (lv'.map .bool) ∧ But p a H H' ∧ TEx H H' ∧
        Q3.Env K H' H' σ' [.play C p (encG g) (encN n) (encSt st') (lv'.map .bool), .dat (encM m), .rdl ((calledM n st.2 lv).map encM), .any, .any, .any, .any] [], ?_, ?_⟩
      · refine s_if (b := decide (wd m.1 = "gate")) E2 (xt_test (xd_eqS (xd_at (xd_var (d := encM m) rfl) xd_int rfl) xd_str)) (fun hb H3 e3 E3 => ?_) (fun hb H3 e3 E3 => ?_)
        · -- self.levels[move[1]] = not self.levels[move[1]]
          have h1 : m.1 = 1 := wd_inj hm2 (by decide) (of_decide_eq_true hb)
          obtain ⟨k, rfl, hk⟩ : ∃ k : Nat, m = (1, (k : Int)) ∧ k < (gatesM n).length := by
            rcases moves_mem hm with ⟨k, rfl, _⟩ | ⟨k, rfl, q⟩ | ⟨x, _, rfl⟩
            · cases h1
            · exact ⟨k, rfl, q⟩
            · cases h1
          have hk2 : k < lv.length := by omega
          have hlk := at_getD false hk2
          have hX3 := hX2.ex e3
          refine (xd_notV (xd_atL (xr_fL rfl T.cl T.aL) (xd_at (d := nat k) (xd_var (d := encM (1, (k : Int))) rfl) xd_int rfl) (getmap hlk)) : Xd K (tNotV (tOp (rIxL K) (tFld K (tVar 0) "levels") (tOp (rIxT K) (tVar 1) (tC (.int 1))))) _ (.bool (!lv.getD k false))) _ _ _ _ E3 _ fun v H4 e4 t4 => ?_
          have hX4 := hX3.ex e4
          obtain ⟨dx, xs, vg, vn, vh, q1, q2, q3, q4, q5, q6⟩ := id hX4
          have σ0 : σ[0]? = some (some (.ref p)) := by
            rcases E3.at_ 0 _ rfl with z | ⟨v, h1, h2, _⟩
            · cases z
            · rw [h1, h2]
          refine ⟨_, σ0, p, C, dx, _, _, rfl, q1, T.cl, T.aL, lkL, ?_⟩
          refine (xd_at (d := nat k) (xd_var (d := encM (1, (k : Int))) rfl) xd_int rfl : Xd K (tOp (rIxT K) (tVar 1) (tC (.int 1))) _ (nat k)) _ _ _ _ (E3.mono e4) _ fun vi H5 e5 t5 => ?_
          have q15 := e5 _ _ q1
          have q55 := e5 _ _ q5
          have t6 : TEx H5 (upd H5 a (.lst (xs.set k v))) := te_upd q55 rfl
          rw [t5.int_eq]
          refine ⟨a, xs, (k : Int), k, rfl, rfl, q55, ixN_nat (by rw [q6.length, List.length_map]; exact hk2), st, lv.set k (!lv.getD k false), ?_, List.length_set, ?_, ?_, ?_, ?_⟩
          · unfold goM
            rw [if_pos rfl, Int.toNat_natCast]
          · refine ⟨dx, _, vg, vn, vh, by rw [upd_ne hX4.ne]; exact q15, (q2.ex e5).mono t6, (q3.ex e5).mono t6, (q4.ex e5).mono t6, upd_same, ?_⟩
            rw [List.map_set]
            exact ((q6.ex e5).mono t6).set k ((t4.ex e5).mono t6)
          · exact ((b2.ex e3).ex (e4.trans e5)).upd (.inr rfl)
          · exact (ste.trans (te_of ((e3.trans e4).trans e5))).trans t6
          · refine (E3.mono (e4.trans e5)).re3 (H1 := upd H5 a (.lst (xs.set k v))) t6 (upd_ne naa.2) ⟨dx, a, _, vg, vn, vh, by rw [upd_ne hX4.ne]; exact q15, (q2.ex e5).mono t6, (q3.ex e5).mono t6, (q4.ex e5).mono t6, upd_same, ?_⟩
            rw [List.map_set]
            exact ((q6.ex e5).mono t6).set k ((t4.ex e5).mono t6)
        · have h1 : m.1 ≠ 1 := fun z => by
            rw [z] at hb
            exact absurd hb (by decide +kernel)
          have hX3 := hX2.ex e3
          have σ0 : ∀ {σ' : L2.St} {H' : Hp} {s3 : SD}, Q3.Env K H H' σ' [.play C p (encG g) (encN n) (encSt st) (lv.map .bool), .dat (encM m), .lst aa ((calledM n st.2 lv).map encM), s3, .any, .any, .any] [] → σ'[0]? = some (some (.ref p)) := fun E => by
            rcases E.at_ 0 _ rfl with z | ⟨v, h1, h2, _⟩
            · cases z
            · rw [h1, h2]
          have fin : ∀ (k : Nat) (σ' : L2.St) (H4 H5 : Hp) (v : V) (dx : Addr) (xs : List V) (vg vn vh : V) (s3 : SD), Q3.Env K H H4 σ' [.play C p (encG g) (encN n) (encSt st) (lv.map .bool), .dat (encM m), .lst aa ((calledM n st.2 lv).map encM), s3, .any, .any, .any] [] →
              (H4 p = some (.ins C dx (pf vg vn vh (.ref a))) ∧ Tp H4 vg (encG g) ∧ Tp H4 vn (encN n) ∧ Tp H4 vh (encSt st) ∧ H4 a = some (.lst xs) ∧ TpAll H4 xs (lv.map .bool)) → Ex H2 H4 → Ex H4 H5 → Tp H5 v (encSt (behM (stp g k) st)) →
              goM g n (st, lv) m = ((behM (stp g k) st, lv), toldM n (st, lv) (behM (stp g k) st, lv) m) →
              ∃ (st' : St2) (lv' : List Bool), goM g n (st, lv) m = ((st', lv'), toldM n (st, lv) (st', lv') m) ∧ lv'.length = lv.length ∧ PlayX C (upd H5 p (.ins C dx (putF "here" v (pf vg vn vh (.ref a))))) p a (encG g) (encN n) (encSt st') (lv'.map .bool) ∧ But p a H (upd H5 p (.ins C dx (putF "here" v (pf vg vn vh (.ref a))))) ∧ TEx H (upd H5 p (.ins C dx (putF "here" v (pf vg vn vh (.ref a))))) ∧
                Q3.Env K (upd H5 p (.ins C dx (putF "here" v (pf vg vn vh (.ref a))))) (upd H5 p (.ins C dx (putF "here" v (pf vg vn vh (.ref a))))) σ' [.play C p (encG g) (encN n) (encSt st') (lv'.map .bool), .dat (encM m), .rdl ((calledM n st.2 lv).map encM), .any, .any, .any, .any] [] := by
            intro k σ' H4 H5 v dx xs vg vn vh s3 E4 ⟨q1, q2, q3, q4, q5, q6⟩ e4 e5 tv hgoe
            rw [putH]
            have t6 : TEx H5 (upd H5 p (.ins C dx (pf vg vn v (.ref a)))) := te_upd (e5 _ _ q1) rfl
            have npa : a ≠ p := hX.ne.symm
            have PX : PlayX C (upd H5 p (.ins C dx (pf vg vn v (.ref a)))) p a (encG g) (encN n) (encSt (behM (stp g k) st)) (lv.map .bool) :=
              ⟨dx, xs, vg, vn, v, upd_same, (q2.ex e5).mono t6, (q3.ex e5).mono t6, tv.mono t6, by rw [upd_ne npa]; exact e5 _ _ q5, (q6.ex e5).mono t6⟩
            exact ⟨_, lv, hgoe, rfl, PX, ((b2.ex e4).ex e5).upd (.inl rfl), (ste.trans (te_of (e4.trans e5))).trans t6, (E4.mono e5).re3 t6 (upd_ne naa.1) PX.at_⟩
          refine s_if (b := decide (wd m.1 = "step")) E3 (xt_test (xd_eqS (xd_at (xd_var (d := encM m) rfl) xd_int rfl) xd_str)) (fun hb H4 e4 E4 => ?_) (fun hb H4 e4 E4 => ?_)
          · -- self.here = behind(self.graph, self.here, move[1])
            have h2 : m.1 = 0 := wd_inj hm2 (by decide) (of_decide_eq_true hb)
            obtain ⟨k, rfl, hk, hc⟩ : ∃ k : Nat, m = (0, (k : Int)) ∧ k < g.steps.length ∧ canM (stp g k) st.1 = true := by
              rcases moves_mem hm with ⟨k, rfl, q, q2⟩ | ⟨k, rfl, q⟩ | ⟨x, _, rfl⟩
              · exact ⟨k, rfl, q, q2⟩
              · cases h2
              · cases h2
            obtain ⟨dx, xs, vg, vn, vh, qq⟩ := hX3.ex e4
            refine s_fld (d := encSt (behM (stp g k) st)) E4 (xd_call (D := D_behind) (xa_d (xd_fG rfl T.cl T.aG) (xa_d (xd_fH rfl T.cl T.aH) (xa_d (xd_at (d := nat k) (xd_var (d := encM (0, (k : Int))) rfl) xd_int rfl) xa_nil))) ⟨_, _, _, _, rfl, stp_at hk, O.S.at_ hk, hsf k hk hc, rfl⟩) (σ0 E4) qq.1 T.cl T.aH (by show 4 < 1000; decide) fun v H5 e5 t5 => ?_
            refine fin k σ H4 H5 v dx xs vg vn vh .any E4 qq (e3.trans e4) e5 t5 ?_
            unfold goM
            rw [if_neg (by show ¬ 0 = 1; decide), if_pos rfl, Int.toNat_natCast]
          · have h2 : m.1 ≠ 0 := fun z => by
              rw [z] at hb
              exact absurd hb (by decide +kernel)
            obtain ⟨x, hx, rfl⟩ : ∃ x ∈ n, m = (2, (x.1 : Int)) := by
              rcases moves_mem hm with ⟨k, rfl, q, q2⟩ | ⟨k, rfl, q⟩ | ⟨x, q, rfl⟩
              · exact absurd rfl h2
              · exact absurd rfl h1
              · exact ⟨x, q, rfl⟩
            refine q_set E4 (xd_call (D := D_step_for) (xa_d (xd_fG rfl T.cl T.aG) (xa_d (xd_fH rfl T.cl T.aH) (xa_d (xd_at (d := nat x.1) (xd_var (d := encM (2, (x.1 : Int))) rfl) xd_int rfl) xa_nil))) ⟨_, _, _, rfl, O.S, rfl⟩) fun σ' H5 e5 E5 => ?_
            cases hw : wstepM g st x.1 with
            | none =>
              rw [hw] at E5
              refine q_when (b := true) E5 (xt_test (xd_isN (d := .none) (xd_var rfl))) (fun hb H6 e6 E6 => ?_) (fun hb => nomatch hb)
              refine s_ret E6 (xd_tup (xs_cons xd_str (xs_cons (xd_at (d := nat x.1) (xd_var (d := encM (2, (x.1 : Int))) rfl) xd_int rfl) xs_nil)) lenk) fun v H7 e7 t7 => ?_
              have hg0 : goM g n (st, lv) (2, (x.1 : Int)) = ((st, lv), .astray (x.1 : Int)) := by
                unfold goM
                rw [if_neg (by show ¬ 2 = 1; decide), if_neg (by show ¬ 2 = 0; decide), Int.toNat_natCast]
                show (match wstepM g st x.1 with | none => _ | some k => _) = _
                rw [hw]
              rw [hg0] at hgo
              exact hgo v H7 (But.of e7) (hX.ex e7) t7 (te_of e7)
            | some k =>
              rw [hw] at E5
              refine q_when (b := false) E5 (xt_test (xd_isN (d := nat k) (xd_var rfl))) (fun hb => nomatch hb) (fun hb H6 e6 E6 => ?_)
              have hk := List.find?_some hw
              have hkl : k < g.steps.length := List.mem_range.mp (List.mem_of_find?_eq_some hw)
              have hc : canM (stp g k) st.1 = true := by
                unfold wsM at hk
                rw [Bool.and_eq_true, Bool.and_eq_true] at hk
                exact hk.2.2
              obtain ⟨dx, xs, vg, vn, vh, qq⟩ := hX3.ex ((e4.trans e5).trans e6)
              refine s_fld (d := encSt (behM (stp g k) st)) E6 (xd_call (D := D_behind) (xa_d (xd_fG rfl T.cl T.aG) (xa_d (xd_fH rfl T.cl T.aH) (xa_d (xd_var rfl) xa_nil))) ⟨_, _, _, _, rfl, stp_at hkl, O.S.at_ hkl, hsf k hkl hc, rfl⟩) (σ0 E6) qq.1 T.cl T.aH (by show 4 < 1000; decide) fun v H7 e7 t7 => ?_
              refine fin k σ' H6 H7 v dx xs vg vn vh _ E6 qq (((e3.trans e4).trans e5).trans e6) e7 t7 ?_
              unfold goM
              rw [if_neg (by show ¬ 2 = 1; decide), if_neg (by show ¬ 2 = 0; decide), Int.toNat_natCast]
              show (match wstepM g st x.1 with | none => _ | some k => _) = _
              rw [hw]
      · rintro σ' H4 ⟨st', lv', hgoe, hlv, PX, B4, T4, E4⟩
        rw [hgoe] at hgo
        have O1 := O.gl
        have O2 := O.nl
        refine q_setL E4 (xl_meth (D := D_P_called C) rfl (fun _ _ _ _ => pf_no (by decide +kernel) (by decide +kernel) (by decide +kernel) (by decide +kernel)) xa_nil ⟨_, _, _, _, _, rfl, O, by rw [hlv]; exact hl, rfl⟩) fun nn σ5 H5 e5 E5 => ?_
        refine q_setL E5 (xl_is (xl_lc (l := calledM n st.2 lv) (fun x => !decide (x = m) && !decide (x ∈ calledM n st'.2 lv')) encM (xi_encR (0, 0) rfl) rfl (go_len O1 O2) trivial fun j x hx => ⟨_, _, gok_name, by decide, (by
            rw [getD_of _ hx]
            have hxo : MvOk x := okCalled x (List.mem_of_getElem? hx)
            exact xt_and (xt_test (xd_is (xd_neD (d := encM x) (e := encM m) (xd_var rfl) (xd_var rfl) (shM x) (shM m)) (by rw [eqvM hxo hm2]))) fun h => (xt_test (xd_is (xd_niD (d := encM x) (xd_var rfl) (xr_lst rfl) (shM x) (shMs _)) (by rw [anyM hxo okCalled])))), fun hb => (by
            rw [getD_of _ hx]
            exact xd_var rfl)⟩) (show _ = (lostM n (st, lv) (st', lv') m).map encM from rfl)) fun c σ6 H6 e6 E6 => ?_
        have hc6 : H4 c = none := by
          rcases E6.at_ 5 _ rfl with z | ⟨v, h1, h2, h3, _⟩
          · cases z
          · exact h3
        obtain ⟨dx, xs, vg, vn, vh, q1, q2, q3, q4, q5, q6⟩ := id PX
        have hcH : H c = none := B4.fresh (by rw [q1]; simp) (by rw [q5]; simp) hc6
        refine q_when E6 (xt_test (xd_gtN (a := (lostM n (st, lv) (st', lv') m).length) (xd_lenL (xr_lst rfl) (List.length_map _)) xd_int)) (fun hb H7 e7 E7 => ?_) (fun hb H7 e7 E7 => ?_)
        · have hne : lostM n (st, lv) (st', lv') m ≠ [] := fun z => by
            rw [z] at hb
            cases hb
          have ht : toldM n (st, lv) (st', lv') m = .vanished (lostM n (st, lv) (st', lv') m) := if_neg hne
          rw [ht] at hgo
          rcases E7.at_ 5 _ rfl with z | ⟨v, h1, h2, h3, ys, h4, h5⟩
          · cases z
          · subst h2
            refine ⟨_, h1, by show 2 ≤ sizeLine; decide, fun b hb7 => ?_⟩
            have ef : Ex H4 (upd H7 b (.tup [.str "vanished", .ref c])) := ((e5.trans e6).trans e7).trans (Ex.new hb7)
            refine hgo _ _ (B4.ex ef) (PX.ex ef) ⟨b, c, ys, rfl, upd_same, (Ex.new hb7) _ _ h4, h5.ex (Ex.new hb7), ?_, hcH⟩ (T4.trans (te_of ef))
            exact B4.fresh (by rw [q1]; simp) (by rw [q5]; simp) (fresh_back ((e5.trans e6).trans e7) hb7)
        · have he : lostM n (st, lv) (st', lv') m = [] := by
            cases z : lostM n (st, lv) (st', lv') m with
            | nil => rfl
            | cons y ys =>
              rw [z] at hb
              exact absurd hb (by simp)
          have ht : toldM n (st, lv) (st', lv') m = .non := if_pos he
          rw [ht] at hgo
          refine s_ret E7 xd_non fun v H8 e8 t8 => ?_
          exact hgo v H8 (B4.ex e8) (PX.ex e8) t8.non_eq (T4.trans (te_of e8))
end

end Q3

namespace Q3
open PySem L2 Evl
/-! ## the law's own plain defs: can, behind, gates, up, wire_step -/
theorem tb (m x : Nat) : decide (m >>> x &&& 1 = 1) = m.testBit x := by
  rw [Nat.testBit_eq_decide_div_mod_eq, Nat.shiftRight_eq_div_pow, Nat.and_one_is_mod]
theorem tb0 (m x : Nat) : decide (m >>> x &&& 1 = 0) = !m.testBit x := by
  rw [← tb]
  have h : m >>> x &&& 1 = 0 ∨ m >>> x &&& 1 = 1 := by
    rw [Nat.and_one_is_mod]
    omega
  rcases h with h | h
  · rw [h]
    rfl
  · rw [h]
    rfl
theorem one_bit (x i : Nat) : (1 <<< x).testBit i = decide (x = i) := by
  rw [Nat.one_shiftLeft, Nat.testBit_two_pow]
theorem or_bits (l : List Nat) : ∀ (b i : Nat), (l.foldl (fun n k => n ||| 1 <<< k) b).testBit i = (b.testBit i || decide (i ∈ l)) := by
  induction l with
  | nil => intro b i; simp
  | cons x l ih =>
    intro b i
    rw [List.foldl_cons, ih, Nat.testBit_or, one_bit]
    by_cases e : x = i
    · subst e
      simp
    · have : ¬ i = x := fun q => e q.symm
      simp [e, this]
theorem xor_bits (l : List Nat) (hn : l.Nodup) : ∀ (b i : Nat), (l.foldl (fun n k => n ^^^ 1 <<< k) b).testBit i = (b.testBit i ^^ decide (i ∈ l)) := by
  induction l with
  | nil => intro b i; simp
  | cons x l ih =>
    intro b i
    have hx := (List.nodup_cons.mp hn).1
    rw [List.foldl_cons, ih (List.nodup_cons.mp hn).2, Nat.testBit_xor, one_bit]
    by_cases e : x = i
    · subst e
      simp [hx]
    · have : ¬ i = x := fun q => e q.symm
      simp [e, this]
theorem bits_bit (l : List Nat) (i : Nat) : (bitsM l).testBit i = decide (i ∈ l) := by
  unfold bitsM
  rw [or_bits]
  simp
theorem can_iff {s : Stp} {m : Nat} : canM s m = true ↔ ∀ x ∈ s.tk, m.testBit x = true := by
  unfold canM
  rw [decide_eq_true_iff]
  constructor
  · intro h x hx
    have z := congrArg (fun n => n.testBit x) h
    simp only [Nat.testBit_and, bits_bit, decide_eq_true hx, Bool.and_true] at z
    exact z
  · intro h
    refine Nat.eq_of_testBit_eq fun i => ?_
    rw [Nat.testBit_and, bits_bit]
    by_cases hi : i ∈ s.tk
    · rw [h i hi, decide_eq_true hi]
      rfl
    · rw [decide_eq_false hi, Bool.and_false]
theorem can_len {s : Stp} {m : Nat} : decide ((s.tk.filter fun x => decide (m >>> x &&& 1 = 1)).length = s.tk.length) = canM s m := by
  have e : (s.tk.filter fun x => decide (m >>> x &&& 1 = 1)).length = s.tk.length ↔ ∀ x ∈ s.tk, m.testBit x = true := by
    rw [List.length_filter_eq_length_iff]
    constructor
    · intro h x hx
      rw [← tb]
      exact h x hx
    · intro h x hx
      show decide (m >>> x &&& 1 = 1) = true
      rw [tb]
      exact h x hx
  cases h : canM s m with
  | true => exact decide_eq_true (e.mpr (can_iff.mp h))
  | false => exact decide_eq_false fun q => by rw [can_iff.mpr (e.mp q)] at h; cases h
def lbehM (s : Stp) (st : St2) : St2 := (s.fl.foldl (fun n k => n ||| 1 <<< k) (s.tk.foldl (fun n k => n ^^^ 1 <<< k) st.1), st.2 ^^^ 1 <<< s.w)
theorem lbeh_eq {s : Stp} {st : St2} (h : s.tk.Nodup) : lbehM s st = behM s st := by
  unfold lbehM behM
  congr 1
  refine Nat.eq_of_testBit_eq fun i => ?_
  rw [or_bits, xor_bits _ h, Nat.testBit_or, Nat.testBit_xor, bits_bit, bits_bit]
theorem fold_more {l : List Nat} {m x : Nat} (f : Nat → Nat → Nat) (b : Nat) (h : l[m]? = some x) : (l.take (m + 1)).foldl f b = f ((l.take m).foldl f b) x := by
  rw [filt_take h, List.foldl_append]
  rfl
theorem up_len {g : Gate} {c : Nat} : decide (0 < (g.filter fun r => decide (c &&& r.1 = r.2)).length) = upM g c := by
  unfold upM fitsM
  rw [← List.countP_eq_length_filter]
  cases h : g.any fun r => decide (c &&& r.1 = r.2) with
  | true =>
    obtain ⟨x, hx, q⟩ := List.any_eq_true.mp h
    exact decide_eq_true (List.countP_pos_iff.mpr ⟨x, hx, q⟩)
  | false =>
    refine decide_eq_false fun q => ?_
    obtain ⟨x, hx, z⟩ := List.countP_pos_iff.mp q
    rw [List.any_eq_true.mpr ⟨x, hx, z⟩] at h
    cases h
def D_l_can : List SD → Res → Prop := fun as R => ∃ (g : Gr) (st : St2) (k : Nat) (s : Stp), as = [.dat (encG g), .dat (encSt st), .dat (nat k)] ∧ g.steps[k]? = some s ∧ s.tk.length ≤ 1000 ∧ R = RD (.bool (canM s st.1))
def D_l_behind : List SD → Res → Prop := fun as R => ∃ (g : Gr) (st : St2) (k : Nat) (s : Stp), as = [.dat (encG g), .dat (encSt st), .dat (nat k)] ∧ g.steps[k]? = some s ∧ spots s ∧ R = RD (encSt (behM s st))
def D_l_gates : List SD → Res → Prop := fun as R => ∃ (n : List NetW), as = [.dat (encN n)] ∧ (gatesM n).length ≤ 50000 ∧ R = RL ((gatesM n).map encLG)
def D_l_up : List SD → Res → Prop := fun as R => ∃ (g : Gate) (c : Nat), as = [.dat (encGt g), .dat (nat c)] ∧ g.length ≤ 50000 ∧ R = RD (.bool (upM g c))
/-- lists short enough -/
structure ShortG (g : Gr) : Prop where
  S : SpotsG g
  tk : ∀ s ∈ g.steps, s.tk.length ≤ 1000
theorem ShortG.at_ {g : Gr} {k : Nat} (S : ShortG g) (h : k < g.steps.length) : (stp g k).tk.length ≤ 1000 := S.tk _ (List.mem_of_getElem? (stp_at h))
def D_l_wire_step : List SD → Res → Prop := fun as R => ∃ (g : Gr) (st : St2) (w : Nat), as = [.dat (encG g), .dat (encSt st), .dat (nat w)] ∧ ShortG g ∧ R = RD (encO (wstepM g st w))
section
variable {P : Program} {w : World} {K : PySem.W.Frag} {mg : Str → Option Value} {base : Heap} {C : Addr} {f : Nat → Addr} {fd : Nat → FuncData} {xc : Nat → Addr}
theorem ok_l_can (T : Top K mg C f fd xc) : FnOk P w K mg base CX0 1 (f 22) (fd 22) ["_law_graph_here", "_law_stand", "_law_step"] (spG K D_l_can) := by
  refine Fun.pure T.l_can.F sc_l_can (fun as R hD => ?_) (by decide) fun cdv A outer s H E hr => ⟨_, (pss_cons (ps_set (i := 3) sc_l_can.nd rfl (Or.inl rfl) (pe_ix ix_tup (pe_ix ix_tup (pe_ix ix_tup (pv 0) pe_int (fun _ _ => rfl)) (pv 2) (fun _ _ => rfl)) pe_int (fun _ _ => rfl)))
  (pss_one (ps_ret (pe_cmpR op_eq (pe_callB call_len_seq (by rfl) T.n_len (by decide +kernel) (pa_cons (pe_lc (own := [("_law_spot", 4)]) (by rfl) sc_l_can.nd (pi_tup (pv 3)) (blkOk_by (own := [("_law_spot", 4)]) (N := N_l_can) (sc := defScope s_l_can) (by decide +kernel)) (fun _ _ _ _ _ => (pg_name (i := 4) sc_l_can.nd rfl (Or.inl rfl))) (fun _ _ _ _ _ => (pts_one (pt_cmpR op_eq (pe_op op_and (pe_op op_shr (pe_ix (ix_tupK K) (pv 1) pe_int (fun _ _ => rfl)) (pv 4)) pe_int) pe_int (nomark _)))) (fun _ _ _ _ _ => (pv 4))) pa_nil)) (pe_callB call_len_seq (by rfl) T.n_len (by decide +kernel) (pa_cons (pv 3) pa_nil)) (nomark _))))), fun as R hD He σ Q E k => ?_⟩
  · obtain ⟨g, st, n, s, rfl, _⟩ := hD
    rfl
  · obtain ⟨g, st, n, s, rfl, hs, hl, rfl⟩ := hD
    refine q_set E (xd_at (d := encNs s.tk) (xd_at (d := encS s) (xd_at (xd_var rfl) xd_int rfl) (xd_var rfl) (getmap hs)) xd_int rfl) fun σ H e E => ?_
    refine s_ret E (xd_is (xd_eqN (xd_lenL (xr_new (xl_lc (l := s.tk) (fun x => decide (st.1 >>> x &&& 1 = 1)) nat (xi_encT 0 (xd_var rfl)) rfl (by omega) trivial fun m x hx => ⟨_, _, gok_name, by decide, (by
      rw [getD_of _ hx]
      exact xt_test (xd_eqN (xd_and (xd_shr (xd_at (xd_var (d := encSt st) rfl) xd_int rfl) (xd_var rfl)) xd_int) xd_int)), fun hb => (by
      rw [getD_of _ hx]
      exact xd_var rfl)⟩)) (List.length_map _)) (xd_len (xd_var rfl) (List.length_map _))) (by rw [can_len])) k
theorem ok_l_behind (T : Top K mg C f fd xc) : FnOk P w K mg base CX0 1 (f 23) (fd 23) ["_law_graph_here", "_law_stand", "_law_step"] (spG K D_l_behind) := by
  refine Fun.pure T.l_behind.F sc_l_behind (fun as R hD => ?_) (by decide) fun cdv A outer s H E hr => ⟨_, (pss_cons (ps_asg (pe_ix ix_tup (pe_ix ix_tup (pv 0) pe_int (fun _ _ => rfl)) (pv 2) (fun _ _ => rfl)) (pg_tup rfl (pgs_cons (pg_name (i := 3) sc_l_behind.nd rfl (Or.inl rfl)) (pgs_cons (pg_name (i := 4) sc_l_behind.nd rfl (Or.inl rfl)) (pgs_cons (pg_name (i := 5) sc_l_behind.nd rfl (Or.inl rfl)) (pgs_cons (pg_name (i := 6) sc_l_behind.nd rfl (Or.inl rfl)) pgs_nil))))))
  (pss_cons (ps_set (i := 7) sc_l_behind.nd rfl (Or.inl rfl) (pe_ix ix_tup (pv 1) pe_int (fun _ _ => rfl)))
  (pss_cons (ps_for PassesOwn.never rfl (pi_tup (pv 5)) (pg_name (i := 8) sc_l_behind.nd rfl (Or.inl rfl))
  (pss_one (ps_set (i := 7) sc_l_behind.nd rfl (Or.inl rfl) (pe_op op_xor (pv 7) (pe_op op_shl pe_int (pv 8))))))
  (pss_cons (ps_for PassesOwn.never rfl (pi_tup (pv 6)) (pg_name (i := 8) sc_l_behind.nd rfl (Or.inl rfl))
  (pss_one (ps_set (i := 7) sc_l_behind.nd rfl (Or.inl rfl) (pe_op op_or (pv 7) (pe_op op_shl pe_int (pv 8))))))
  (pss_one (ps_ret (pe_tup (pa_cons (pv 7) (pa_cons (pe_op op_xor (pe_ix ix_tup (pv 1) pe_int (fun _ _ => rfl)) (pe_op op_shl pe_int (pv 3))) pa_nil))))))))), fun as R hD He σ Q E k => ?_⟩
  · obtain ⟨g, st, n, s, rfl, _⟩ := hD
    rfl
  · obtain ⟨g, st, n, s, rfl, hs, hsp, rfl⟩ := hD
    rw [← lbeh_eq hsp.2.2.2] at k
    refine q_asg E (xd_at (d := encS s) (xd_at (xd_var rfl) xd_int rfl) (xd_var rfl) (getmap hs)) gok4 fun σ H e E => ?_
    refine q_set E (xd_at (xd_var (d := encSt st) rfl) xd_int rfl) fun σ H e E => ?_
    refine q_for (S := Unit) (fun m _ => True) (fun m _ => [.dat (encG g), .dat (encSt st), .dat (nat n), .dat (nat s.w), .dat (.bool s.up), .dat (encNs s.tk), .dat (encNs s.fl), .dat (nat ((s.tk.take m).foldl (fun n k => n ^^^ 1 <<< k) st.1)), .any]) () E (xi_encT 0 (xd_var rfl)) trivial (.refl _) (fun _ _ _ _ => trivial) (fun m hm => gok_name) (fun G m u σ H hm is E => ?_) (fun u σ H is E => ?_)
    · have hx := at_getD 0 hm
      have hlt := hsp.1 _ (List.mem_of_getElem? hx)
      refine s_set E (xd_xor (xd_var rfl) (xd_shl1 xd_int (xd_var rfl) (by omega))) fun σ H e E => ⟨(), trivial, ?_⟩
      rw [fold_more _ _ hx]
      exact E.wk (.same (.same (.same (.same (.same (.same (.same (.same (.drop .nil)))))))))
    · rw [List.take_length] at E
      refine q_for (S := Unit) (fun m _ => True) (fun m _ => [.dat (encG g), .dat (encSt st), .dat (nat n), .dat (nat s.w), .dat (.bool s.up), .dat (encNs s.tk), .dat (encNs s.fl), .dat (nat ((s.fl.take m).foldl (fun n k => n ||| 1 <<< k) (s.tk.foldl (fun n k => n ^^^ 1 <<< k) st.1))), .any]) () E (xi_encT 0 (xd_var rfl)) trivial (.refl _) (fun _ _ _ _ => trivial) (fun m hm => gok_name) (fun G m u σ H hm is E => ?_) (fun u σ H is E => ?_)
      · have hx := at_getD 0 hm
        have hlt := hsp.2.1 _ (List.mem_of_getElem? hx)
        refine s_set E (xd_or (xd_var rfl) (xd_shl1 xd_int (xd_var rfl) (by omega))) fun σ H e E => ⟨(), trivial, ?_⟩
        rw [fold_more _ _ hx]
        exact E.wk (.same (.same (.same (.same (.same (.same (.same (.same (.drop .nil)))))))))
      · rw [List.take_length] at E
        have hw := hsp.2.2.1
        refine s_ret E (xd_tup (xs_cons (xd_var rfl) (xs_cons (xd_xor (xd_at (xd_var (d := encSt st) rfl) xd_int rfl) (xd_shl1 xd_int (xd_var rfl) (by omega))) xs_nil)) lenk) k
theorem ok_l_gates (T : Top K mg C f fd xc) : FnOk P w K mg base CX0 1 (f 30) (fd 30) ["_law_net"] (spG K D_l_gates) := by
  refine Fun.pure T.l_gates.F sc_l_gates (fun as R hD => ?_) (by decide) fun cdv A outer s H E hr => ⟨_, (pss_cons (ps_set (i := 1) sc_l_gates.nd rfl (Or.inl rfl) (pe_lst pa_nil))
  (pss_cons (ps_for PassesOwn.never rfl (pi_tup (pv 0)) (pg_tup rfl (pgs_cons (pg_name (i := 2) sc_l_gates.nd rfl (Or.inr rfl)) (pgs_cons (pg_name (i := 3) sc_l_gates.nd rfl (Or.inl rfl)) (pgs_cons (pg_name (i := 4) sc_l_gates.nd rfl (Or.inl rfl)) pgs_nil))))
  (pss_one (ps_set (i := 1) sc_l_gates.nd rfl (Or.inl rfl) (pe_op op_cat (pe_op op_cat (pv 1) (pe_lc (own := [("_law_gate", 5)]) (by rfl) sc_l_gates.nd (pi_tup (pv 3)) (blkOk_by (own := [("_law_gate", 5)]) (N := N_l_gates) (sc := defScope s_l_gates) (by decide +kernel)) (fun _ _ _ _ _ => (pg_name (i := 5) sc_l_gates.nd rfl (Or.inl rfl))) (fun _ _ _ _ _ => pts_nil) (fun _ _ _ _ _ => (pe_tup (pa_cons (pv 2) (pa_cons pe_int (pa_cons (pv 5) pa_nil))))))) (pe_lc (own := [("_law_gate", 5)]) (by rfl) sc_l_gates.nd (pi_tup (pv 4)) (blkOk_by (own := [("_law_gate", 5)]) (N := N_l_gates) (sc := defScope s_l_gates) (by decide +kernel)) (fun _ _ _ _ _ => (pg_name (i := 5) sc_l_gates.nd rfl (Or.inl rfl))) (fun _ _ _ _ _ => pts_nil) (fun _ _ _ _ _ => (pe_tup (pa_cons (pv 2) (pa_cons (pe_un un_neg pe_int) (pa_cons (pv 5) pa_nil))))))))))
  (pss_one (ps_ret (pv 1))))), fun as R hD He σ Q E k => ?_⟩
  · obtain ⟨n, rfl, _⟩ := hD
    rfl
  · obtain ⟨n, rfl, hl, rfl⟩ := hD
    refine q_setL E (xl_lst xs_nil lenk) fun a σ H e E => ?_
    refine q_for (S := Addr) (fun m s => True) (fun m s => [.dat (encN n), .lst s ((gatesM (n.take m)).map encLG), .any, .any, .any, .any]) a E (xi_encT (0, [], []) (xd_var rfl)) trivial (.refl _) (fun _ _ _ _ => trivial) (fun m hm => gok3) (fun G m s σ H hm is E => ?_) (fun s σ H is E => ?_)
    · have hx := at_getD ((0, [], []) : NetW) hm
      generalize n.getD m (0, [], []) = x at hx E
      have l1 : (gatesM (n.take m)).length + (x.2.1.length + x.2.2.length) ≤ 50000 := by
        have z := gates_more hx
        have z2 := gates_le (n := n) (m := m + 1)
        rw [z, List.length_append] at z2
        unfold gatesW at z2
        rw [List.length_append, List.length_map, List.length_map] at z2
        omega
      refine s_setL E (xl_cat (xl_catV rfl (xl_lcAll (l := x.2.1) (fun g => encLG (x.1, true, g)) (xi_encT [] (xd_var rfl)) rfl (by omega) trivial fun j y hy => ⟨_, _, gok_name, by decide, (by
        rw [getD_of _ hy]
        exact xd_tup (xs_cons (xd_var rfl) (xs_cons xd_int (xs_cons (xd_var rfl) xs_nil))) lenk)⟩) (by
          rw [List.length_map, List.length_map]
          omega)) (xl_lcAll (l := x.2.2) (fun g => encLG (x.1, false, g)) (xi_encT [] (xd_var rfl)) rfl (by omega) trivial fun j y hy => ⟨_, _, gok_name, by decide, (by
        rw [getD_of _ hy]
        exact xd_tup (xs_cons (xd_var rfl) (xs_cons (xd_un xd_int) (xs_cons (xd_var rfl) xs_nil))) lenk)⟩) (by
          rw [List.length_append, List.length_map, List.length_map, List.length_map]
          omega)) fun b σ H e E => ⟨b, trivial, ?_⟩
      rw [gates_more hx]
      unfold gatesW
      rw [List.map_append, List.map_append, List.map_map, List.map_map, ← List.append_assoc]
      exact E.wk (.same (.same (.drop (.drop (.drop (.drop .nil))))))
    · rw [List.take_length] at E
      exact s_retV E rfl k
theorem ok_l_up (T : Top K mg C f fd xc) : FnOk P w K mg base CX0 1 (f 31) (fd 31) ["_law_gate", "_law_code"] (spG K D_l_up) := by
  refine Fun.pure T.l_up.F sc_l_up (fun as R hD => ?_) (by decide) fun cdv A outer s H E hr => ⟨_, (pss_one (ps_ret (pe_cmpR op_gt (pe_callB call_len_seq (by rfl) T.n_len (by decide +kernel) (pa_cons (pe_lc (own := [("_law_row", 2)]) (by rfl) sc_l_up.nd (pi_tup (pv 0)) (blkOk_by (own := [("_law_row", 2)]) (N := N_l_up) (sc := defScope s_l_up) (by decide +kernel)) (fun _ _ _ _ _ => (pg_name (i := 2) sc_l_up.nd rfl (Or.inl rfl))) (fun _ _ _ _ _ => (pts_one (pt_cmpR op_eq (pe_op op_and (pv 1) (pe_ix (ix_tupK K) (pv 2) pe_int (fun _ _ => rfl))) (pe_ix (ix_tupK K) (pv 2) pe_int (fun _ _ => rfl)) (nomark _)))) (fun _ _ _ _ _ => (pv 2))) pa_nil)) pe_int (nomark _)))), fun as R hD He σ Q E k => ?_⟩
  · obtain ⟨g, c, rfl, _⟩ := hD
    rfl
  · obtain ⟨g, c, rfl, hl, rfl⟩ := hD
    refine s_ret E (xd_is (xd_gtN (xd_lenL (xr_new (xl_lc (l := g) (fun r => decide (c &&& r.1 = r.2)) encR (xi_encT (0, 0) (xd_var rfl)) rfl (by omega) trivial fun m x hx => ⟨_, _, gok_name, by decide, (by
      rw [getD_of _ hx]
      exact xt_test (xd_eqN (xd_and (xd_var rfl) (xd_at (xd_var (d := encR x) rfl) xd_int rfl)) (xd_at (xd_var (d := encR x) rfl) xd_int rfl))), fun hb => (by
      rw [getD_of _ hx]
      exact xd_var rfl)⟩)) (List.length_map _)) xd_int) (by rw [up_len])) k
theorem ok_l_wire_step (T : Top K mg C f fd xc) : FnOk P w K mg base CX0 2 (f 34) (fd 34) ["_law_graph_here", "_law_stand", "_law_wire"] (spG K D_l_wire_step) := by
  refine Fun.pure T.l_wire_step.F sc_l_wire_step (fun as R hD => ?_) (by decide) fun cdv A outer s H E hr => ⟨_, (pss_cons (ps_for PassesOwn.never rfl (pi_range1 rfl T.n_range (pa_cons (pe_callB call_len_seq (by rfl) T.n_len (by decide +kernel) (pa_cons (pe_ix ix_tup (pv 0) pe_int (fun _ _ => rfl)) pa_nil)) pa_nil)) (pg_name (i := 3) sc_l_wire_step.nd rfl (Or.inl rfl))
  (pss_cons (ps_asg (pe_ix ix_tup (pe_ix ix_tup (pv 0) pe_int (fun _ _ => rfl)) (pv 3) (fun _ _ => rfl)) (pg_tup rfl (pgs_cons (pg_name (i := 4) sc_l_wire_step.nd rfl (Or.inl rfl)) (pgs_cons (pg_name (i := 5) sc_l_wire_step.nd rfl (Or.inl rfl)) (pgs_cons (pg_name (i := 6) sc_l_wire_step.nd rfl (Or.inl rfl)) (pgs_cons (pg_name (i := 7) sc_l_wire_step.nd rfl (Or.inl rfl)) pgs_nil))))))
  (pss_one (ps_if (PW.pt (pw_and (pt_cmpR op_eq (pv 4) (pv 2) (nomark _)) (pw_and (pt_cmpR op_eq (pv 5) (pe_cmpR op_eq (pe_op op_and (pe_op op_shr (pe_ix ix_tup (pv 1) pe_int (fun _ _ => rfl)) (pv 2)) pe_int) pe_int (nomark _)) (nomark _)) (pw_and1 (pt_val (pe_call (ok_l_can T) (hr.mono (by decide)) (by rfl) T.l_can.m T.l_can.F.kp T.l_can.b .nil pass0 (pa_cons (pv 0) (pa_cons (pv 1) (pa_cons (pv 3) pa_nil))))))))) (pss_one (ps_ret (pv 3))) pss_nil))))
  (pss_one (ps_ret pe_non))), fun as R hD He σ Q E k => ?_⟩
  · obtain ⟨g, st, w, rfl, _⟩ := hD
    rfl
  · obtain ⟨g, st, w, rfl, S, rfl⟩ := hD
    refine q_for (S := Unit) (fun m s => (List.range m).find? (wsM g st w) = none) (fun m s => [.dat (encG g), .dat (encSt st), .dat (nat w), .any, .any, .any, .any, .any]) () E (xi_range (xd_len (xd_at (xd_var rfl) xd_int rfl) (List.length_map _)) (by have := S.S.2; omega)) rfl (.refl _) (fun _ _ _ _ => trivial) (fun m hm => gok_name) (fun G m s σ H hm is E => ?_) (fun s σ H is E => ?_)
    · have hs := stp_at hm
      refine q_asg E (xd_at (d := encS (stp g m)) (xd_at (xd_var rfl) xd_int rfl) (xd_var rfl) (getmap hs)) gok4 fun σ H e E => ?_
      refine s_if E (b := wsM g st w m) (xt_and (xt_test (xd_eqN (xd_var rfl) (xd_var rfl))) fun h => (xt_and (xt_test (xd_eqB (xd_var rfl) (xd_eqN (xd_and (xd_shr (xd_at (xd_var (d := encSt st) rfl) xd_int rfl) (xd_var rfl)) xd_int) xd_int))) fun h => (xt_B (xd_call (D := D_l_can) (xa_d (xd_var rfl) (xa_d (xd_var rfl) (xa_d (xd_var rfl) xa_nil))) ⟨_, _, _, _, rfl, hs, S.at_ hm, rfl⟩)))) (fun hb H e E => ?_) (fun hb H e E => ?_)
      · unfold wstepM at k
        rw [find_some_more is hb hm] at k
        refine s_ret E (xd_var rfl) k
      · exact ⟨(), find_none_more is hb, E.wk (.same (.same (.same (.drop (.drop (.drop (.drop (.drop .nil))))))))⟩
    · unfold wstepM at k
      rw [is] at k
      refine s_ret E xd_non k
end

end Q3

namespace Q3
open PySem L2 Evl PyProof.Rows RZ

/-! ## zip of a list and a tuple -/
/-- a list at a and a tuple at b, an item of each, turn by turn -/
def ItM (K : PySem.W.Frag) (a b : Addr) : It where
  go := fun m H => ∃ us vs : List V, SqL K H a us ∧ SqT K H b vs ∧ m < us.length ∧ m < vs.length
  yld := fun m H r H2 => ∃ (T : Addr) (p q : V), r = .ref T ∧ H T = none ∧ H2 = upd H T (.tup [p, q]) ∧ (∀ us, SqL K H a us → us[m]? = some p) ∧ ∀ vs, SqT K H b vs → vs[m]? = some q
  stop := fun m H => ∃ us vs : List V, SqL K H a us ∧ SqT K H b vs ∧ m ≤ us.length ∧ m ≤ vs.length ∧ (m = us.length ∨ m = vs.length)
theorem zs_of {z TI TO i1 i2 a b : Addr} (D : ZipApart z TI TO i1 i2 a b) : ZipSep2 z TI TO i1 i2 [i1, a] [i2, b] := by
  obtain ⟨h1, h2, h3, h4, h5, h6, h7, h8, h9, h10, h11, h12, h13, h14, h15, h16, h17, h18⟩ := D
  constructor <;> simp <;> (try constructor) <;> (first | assumption | exact Ne.symm (by assumption))
theorem turn_zipM {P : Program} {w : World} {K : PySem.W.Frag} {elts : List Expr} {kk : Nat} {tpos : Pos} {a b z TI TO i1 i2 : Addr} (D : ZipApart z TI TO i1 i2 a b) :
    Turn P w K (.Tuple elts kk tpos) (ItM K a b) [z, TI, TO, i1, i2] z (fun m h => IsZip h z TI TO .none ∧ IsTupOf2 h TI (.ref i1) (.ref i2) ∧ (∃ p q, IsTupOf2 h TO p q) ∧ h.IsListIter i1 a m ∧ h.IsTupleIter i2 b m) := by
  refine ⟨by simp, fun m h st c hc => ?_, fun m h h' st k => ?_, ?_, ?_, fun A m s Q E st h => wpAny_pyIter_zip st.1 h⟩
  · obtain ⟨hz, hTI, ⟨p, q, hTO⟩, ⟨o1, e1, _, d1⟩, ⟨o2, e2, _, d2⟩⟩ := st
    simp only [List.mem_cons, List.not_mem_nil, or_false] at hc
    rcases hc with rfl | rfl | rfl | rfl | rfl
    · exact ⟨_, hz, nofun⟩
    · exact ⟨_, hTI, nofun⟩
    · exact ⟨_, hTO, nofun⟩
    · exact ⟨o1, e1, fun v r => by
        rw [d1] at r
        cases r⟩
    · exact ⟨o2, e2, fun v r => by
        rw [d2] at r
        cases r⟩
  · obtain ⟨hz, hTI, ⟨p, q, hTO⟩, j1, j2⟩ := st
    exact ⟨k _ (by simp) _ hz, k _ (by simp) _ hTI, ⟨p, q, k _ (by simp) _ hTO⟩, j1.at fun o r => k i1 (by simp) o r, j2.at fun o r => k i2 (by simp) o r⟩
  · intro X hP hw hK hc m pins s σ H E I hf ⟨hz, hTI, ⟨p0, q0, hTO⟩, j1, j2⟩ ⟨us, vs, hus, hvs, lu, lv⟩
    subst hP hw hK
    obtain ⟨its, rv, p1, _⟩ := I.list hus
    obtain ⟨its2, rv2, p2, _⟩ := I.tuple hvs
    have hx : us[m]? = some us[m] := List.getElem?_eq_getElem lu
    have hy : vs[m]? = some vs[m] := List.getElem?_eq_getElem lv
    obtain ⟨u, hu, ru⟩ := rv.get hx
    obtain ⟨v, hv, ry⟩ := rv2.get hy
    have l1 := rv.length
    have l2 := rv2.length
    have hzl : z < s.heap.objs.size := Heap.lt_size hz
    have hd := I.ok.hd hc
    refine wpAny_pyNext_zipD2_item (zs_of D) (Draws.list (prog := X.prog) (w := X.w) (A := X.A.in1) hd i1 a D.l1i1 its.toArray) (Draws.tuple (prog := X.prog) (w := X.w) (A := X.A.in1) hd i2 b D.l2i2 its2.toArray) hz hTI hTO ⟨j1, p1.isList⟩ ⟨j2, p2⟩ (by simp; omega) (by simp; omega) fun x1 x2 h' tk q1 q2 hz' hTO' st1 st2 hT hsz hk => ?_
    have e1 : x1 = u := by
      simp only [List.getElem?_toArray] at q1
      rw [hu] at q1
      cases q1
      rfl
    have e2 : x2 = v := by
      simp only [List.getElem?_toArray] at q2
      rw [hv] at q2
      cases q2
      rfl
    subst e1 e2
    refine ⟨_, rfl, wpAny_letOwnedTupleGo_zip (s := { s with heap := h', toks := tk }) hz' fun h2 hz2 sb => ?_⟩
    have hT2 : h2.get? s.heap.objs.size = some { cls := .type "tuple", data := .seq #[x1, x2] } := (sb.2 _ (Nat.ne_of_gt hzl)).trans hT
    have new : ObjOk X.prog X.w (upd H s.heap.objs.size (.tup [us[m], vs[m]])) h2 s.heap.objs.size (.tup [us[m], vs[m]]) :=
      ⟨by show 2 ≤ sizeLine; decide, [x1, x2], .cons ru (.cons ry .nil), ⟨_, hT2, rfl, _, rfl⟩⟩
    have I1 : Inv X pins σ (upd H s.heap.objs.size (.tup [us[m], vs[m]])) { s with heap := h2, toks := tk } := I.turnedNew (t' := tk) (ch := [z, TI, TO, i1, i2]) (fun c o hb r => by
      simp only [List.mem_cons, List.not_mem_nil, or_false, not_or] at hb
      exact (sb.2 c hb.1).trans (hk c o hb.1 hb.2.2.1 hb.2.2.2.1 hb.2.2.2.2 r)) hf (Nat.le_refl _) new
    refine ⟨.ref s.heap.objs.size, _, I1, rfl, ⟨_, _, _, rfl, I.hok.fresh (Nat.le_refl _), rfl, fun l hl => by rw [I.list_inj hl hus]; exact hx, fun l hl => by rw [I.tuple_inj hl hvs]; exact hy⟩, ⟨hz2, ?_, ⟨x1, x2, ?_⟩, ?_, ?_⟩, fun c hcm => ?_⟩
    · exact (sb.2 _ D.TIz).trans (hk _ _ D.TIz D.TITO D.TIi1 D.TIi2 hTI)
    · exact (sb.2 _ D.TOz).trans hTO'
    · exact st1.1.at fun o r => (sb.2 _ D.i1z).trans r
    · exact st2.1.at fun o r => (sb.2 _ D.i2z).trans r
    · have hlt : c < s.heap.objs.size := by
        have hcm' := hcm
        simp only [List.mem_cons, List.not_mem_nil, or_false] at hcm'
        rcases hcm' with rfl | rfl | rfl | rfl | rfl
        · exact hzl
        · exact Heap.lt_size hTI
        · exact Heap.lt_size hTO
        · obtain ⟨_, e, _⟩ := j1
          exact Heap.lt_size e
        · obtain ⟨_, e, _⟩ := j2
          exact Heap.lt_size e
      rw [upd_ne (Nat.ne_of_lt hlt)]
      exact (hf c hcm).1
  · intro X hP hw hK hc m pins s σ H E I hf ⟨hz, hTI, ⟨p0, q0, hTO⟩, j1, j2⟩ ⟨us, vs, hus, hvs, lu, lv, hend⟩
    subst hP hw hK
    obtain ⟨its, rv, p1, _⟩ := I.list hus
    obtain ⟨its2, rv2, p2, _⟩ := I.tuple hvs
    have l1 := rv.length
    have l2 := rv2.length
    have hd := I.ok.hd hc
    exact wpAny_pyNext_zipD2_end (zs_of D) (Draws.list (prog := X.prog) (w := X.w) (A := X.A.in1) hd i1 a D.l1i1 its.toArray) (Draws.tuple (prog := X.prog) (w := X.w) (A := X.A.in1) hd i2 b D.l2i2 its2.toArray) hz hTI hTO ⟨j1, p1.isList⟩ ⟨j2, p2⟩ (by simp; omega) (by simp; omega) (by simp; omega) fun h' tk hk => ⟨rfl, I.turnedL (t' := tk) (ch := [z, TI, TO, i1, i2]) (fun c o hb r => by
      simp only [List.mem_cons, List.not_mem_nil, or_false, not_or] at hb
      exact hk c o hb.1 hb.2.2.1 hb.2.2.2.1 hb.2.2.2.2 r) hf⟩
def iZipM (K : PySem.W.Frag) (ta : TA) : TI := fun σ H R => ta σ H fun rs H2 => ∃ (a b : Addr) (us vs : List V), rs = [.ref a, .ref b] ∧ SqL K H2 a us ∧ SqT K H2 b vs ∧ R (ItM K a b) H2
theorem pi_zipLT {X : Cx} {e e2 : Expr} {ta : TA} {p pos tpos : Pos} {elts : List Expr} {kk : Nat}
    (hg : Gl X "zip") (hm : X.mg "zip" = none) (ha : PA X [e, e2] ta) (hs : starEach [e, e2] X.env = (false, eval e X.env) :: starEach [e2] X.env := by rfl) (hpl : (backTo pos (starEach [e2] X.env)).any (·.1) = false := by rfl) :
    PI X (.Tuple elts kk tpos) (.Call (.Name "zip" p) [e, e2] [] pos) (iZipM X.K ta) := by
  refine ⟨fun pins s σ H R I h => ?_⟩
  refine Call_ (ld_blt I hg hm PyProof.Rows.boot_zip (PyProof.Rows.callWith_type1 (thn (ha.run pos pins s σ H _ I h) fun rs s1 ⟨vs, H1, I1, r1, q1⟩ => ?_) hs hpl))
  obtain ⟨a, b, us, ws, rfl, hqa, hqb, q⟩ := q1
  cases r1 with
  | cons r rr =>
    cases rr with
    | cons r' rr =>
      cases rr
      cases r
      cases r'
      obtain ⟨its, rv, p1, _⟩ := I1.list hqa
      obtain ⟨its2, rv2, p2, _⟩ := I1.tuple hqb
      obtain ⟨o2, ho2, _⟩ := id p2
      refine zip_begins2 (begins_list a its.toArray) (begins_tuple b its2.toArray) p1.isList p2 fun h' hz hTI hTO g1 g2 hsz hk => wpAny_pyIter_zip hz ?_
      have I2 : Inv X pins σ H1 { s1 with heap := h' } := I1.kept (t' := s1.toks) hk
      refine ⟨s1.heap.objs.size + 4, [s1.heap.objs.size + 4, s1.heap.objs.size + 2, s1.heap.objs.size + 3, s1.heap.objs.size, s1.heap.objs.size + 1], _, _, H1, rfl, I2, turn_zipM (PySem.W.ktu_apart s1.heap.objs.size a b p1.lt (Heap.lt_size ho2)), ⟨hz, hTI, ⟨_, _, hTO⟩, ⟨_, g1, rfl, rfl⟩, ⟨_, g2, rfl, rfl⟩⟩, fun c hcm => ?_, q⟩
      have hle : s1.heap.objs.size ≤ c := by
        simp only [List.mem_cons, List.not_mem_nil, or_false] at hcm
        rcases hcm with e | e | e | e | e
        all_goals
          rw [e]
          first | exact Nat.le_add_right _ _ | exact Nat.le_refl _
      exact I1.fpOk hle (I1.hok.fresh hle)
section
variable {K : PySem.W.Frag} {Γ : List SD} {ds es : List PyData}
/-- an own list of a slot beside a tuple -/
theorem xi_zipM {i : Nat} {a : Addr} {f : Nat → PyData} {te : TE} (h : Γ[i]? = some (.lst a ds)) (h' : Xd K te Γ (.tuple es)) (hl : ds.length = es.length) (hf : ∀ m d e, ds[m]? = some d → es[m]? = some e → f m = .tuple [d, e]) :
    Xi K (iZipM K (tCons (tVar i) (tCons te tNil))) Γ (fun Γ' => Γ'[i]? = some (.lst a ds)) ds.length f := fun He H σ G E R k => by
  rcases E.at_ i _ h with z | ⟨v, hv, ev, g1, us, h1, h2⟩
  · cases z
  · subst ev
    refine ⟨_, hv, ?_⟩
    refine h' He H σ G E _ fun w H2 ex tw => ?_
    obtain ⟨b, ws, rfl, hb, hs⟩ := tw.tup_eq
    have E2 := E.mono ex
    rcases E2.at_ i _ h with z | ⟨v', hv', ev', g2, us', h3, h4⟩
    · cases z
    · cases ev'
      refine ⟨a, b, us', ws, rfl, sq_of h3, st_of hb, k _ H2 [(.ref b, .dat (.tuple es))] ex (E2.ghostD tw) fun H' σ' Γ' E' kp => ?_⟩
      have t' : Tp H' (.ref b) (.tuple es) := E'.gh _ List.mem_cons_self
      obtain ⟨b', ys, eb, hb', hs'⟩ := t'.tup_eq
      cases eb
      rcases E'.at_ i _ kp with z | ⟨v', hv', e', h1', xs', h2', h3'⟩
      · cases z
      · have l1 := h3'.length
        have l2 := hs'.length
        refine ⟨fun m hm => ⟨⟨xs', ys, sq_of h2', st_of hb', by omega, by omega⟩, fun x H'' y => ?_⟩, ⟨xs', ys, sq_of h2', st_of hb', by omega, by omega, .inl (by omega)⟩⟩
        obtain ⟨T, p, q, rfl, hT, rfl, q1, q2⟩ := y
        obtain ⟨d, hd, td⟩ := h3'.at_ (q1 _ (sq_of h2'))
        obtain ⟨e, he, t2⟩ := hs'.at_ (q2 _ (st_of hb'))
        rw [hf m d e hd he]
        exact ⟨Ex.new hT, .tup upd_same (.cons (td.ex (Ex.new hT)) (.cons (t2.ex (Ex.new hT)) .nil))⟩
theorem range_at {n m x : Nat} (h : (List.range n)[m]? = some x) : m < n ∧ x = m := by
  obtain ⟨h1, h2⟩ := List.getElem?_eq_some_iff.mp h
  rw [List.getElem_range] at h2
  rw [List.length_range] at h1
  exact ⟨h1, h2.symm⟩
theorem xi_zipME {α β : Type} {l : List α} {enc : α → PyData} {i : Nat} {a : Addr} {te : TE} {l' : List β} {enc' : β → PyData} (d : α) (d' : β) (h : Γ[i]? = some (.lst a (l.map enc))) (h' : Xd K te Γ (.tuple (l'.map enc'))) (hl : l.length = l'.length) :
    Xi K (iZipM K (tCons (tVar i) (tCons te tNil))) Γ (fun Γ' => Γ'[i]? = some (.lst a (l.map enc))) l.length (fun m => .tuple [enc (l.getD m d), enc' (l'.getD m d')]) := by
  have z := xi_zipM (K := K) (f := fun m => .tuple [enc (l.getD m d), enc' (l'.getD m d')]) h h' (by rw [List.length_map, List.length_map, hl]) fun m y y' hy hy' => by
    rw [map_getD (e := fun _ => enc) d m y hy, map_getD (e := fun _ => enc') d' m y' hy']
  rw [List.length_map] at z
  exact z
/-! ## a number, a text in a list -/
theorem inV_ints {i : Int} {ns : List Int} : inV (.int i) (ns.map V.int) = decide (i ∈ ns) := by
  unfold inV
  rw [List.any_map]
  cases h : decide (i ∈ ns) with
  | true => exact List.any_eq_true.mpr ⟨i, of_decide_eq_true h, beq_self_eq_true i⟩
  | false =>
    refine List.any_eq_false.mpr fun x hx q => ?_
    rw [eq_of_beq q] at hx
    exact of_decide_eq_false h hx
theorem flat_ints {ns : List Int} : (ns.map V.int).all flatV = true := List.all_eq_true.mpr fun v hv => by
  obtain ⟨x, _, rfl⟩ := List.mem_map.mp hv
  rfl
theorem strs_of_tpAll {H : Hp} : ∀ {ns : List Str} {vs : List V}, TpAll H vs (ns.map PyData.str) → vs = ns.map V.str
  | [], [], _ => rfl
  | n :: ns, v :: vs, h => by
    cases h with
    | cons h1 h2 => rw [h1.str_eq, strs_of_tpAll h2] <;> rfl
  | [], _ :: _, h => by cases h
  | _ :: _, [], h => by cases h
theorem inV_strs {i : Str} {ns : List Str} : inV (.str i) (ns.map V.str) = decide (i ∈ ns) := by
  unfold inV
  rw [List.any_map]
  cases h : decide (i ∈ ns) with
  | true => exact List.any_eq_true.mpr ⟨i, of_decide_eq_true h, beq_self_eq_true i⟩
  | false =>
    refine List.any_eq_false.mpr fun x hx q => ?_
    rw [eq_of_beq q] at hx
    exact of_decide_eq_false h hx
theorem flat_strs {ns : List Str} : (ns.map V.str).all flatV = true := List.all_eq_true.mpr fun v hv => by
  obtain ⟨x, _, rfl⟩ := List.mem_map.mp hv
  rfl
variable {ta tb : TE}
theorem xd_inF {i : Int} {ns : List Int} (ha : Xd K ta Γ (.int i)) (hb : Xr K tb Γ (ns.map .int)) : Xd K (tOp (rIn K false) ta tb) Γ (.bool (decide (i ∈ ns))) := fun He H σ G E Q q =>
  ha He H σ G E _ fun v H2 e2 t2 => hb He H2 σ G (E.mono e2) _ fun a xs H3 e3 l3 t3 => by
    rw [t2.int_eq]
    rw [ints_of_tpAll t3] at l3
    refine ⟨a, _, rfl, .inl l3, rfl, flat_ints, ?_⟩
    rw [inV_ints]
    exact q _ H3 (e2.trans e3) (.bl _)
theorem xd_niF {i : Int} {ns : List Int} (ha : Xd K ta Γ (.int i)) (hb : Xr K tb Γ (ns.map .int)) : Xd K (tOp (rIn K true) ta tb) Γ (.bool (!decide (i ∈ ns))) := fun He H σ G E Q q =>
  ha He H σ G E _ fun v H2 e2 t2 => hb He H2 σ G (E.mono e2) _ fun a xs H3 e3 l3 t3 => by
    rw [t2.int_eq]
    rw [ints_of_tpAll t3] at l3
    refine ⟨a, _, rfl, .inl l3, rfl, flat_ints, ?_⟩
    rw [inV_ints]
    exact q _ H3 (e2.trans e3) (.bl _)
theorem xd_inS {i : Str} {ns : List Str} (ha : Xd K ta Γ (.str i)) (hb : Xr K tb Γ (ns.map .str)) : Xd K (tOp (rIn K false) ta tb) Γ (.bool (decide (i ∈ ns))) := fun He H σ G E Q q =>
  ha He H σ G E _ fun v H2 e2 t2 => hb He H2 σ G (E.mono e2) _ fun a xs H3 e3 l3 t3 => by
    rw [t2.str_eq]
    rw [strs_of_tpAll t3] at l3
    refine ⟨a, _, rfl, .inl l3, rfl, flat_strs, ?_⟩
    rw [inV_strs]
    exact q _ H3 (e2.trans e3) (.bl _)
/-! ## parts of lists -/
theorem cut_to {α : Type} {enc : α → PyData} {l : List α} (k : Nat) : cutD (l.map enc) none (some (k : Int)) = (l.take k).map enc := by
  unfold cutD
  rw [HT.sIx_nat, HT.sIx_none, List.drop_zero, Nat.sub_zero, List.length_map, ← List.map_take]
  congr 1
  by_cases h : k ≤ l.length
  · rw [Nat.min_eq_left h]
  · rw [Nat.min_eq_right (by omega), List.take_length, List.take_of_length_le (by omega)]
theorem cut_from {α : Type} {enc : α → PyData} {l : List α} (k : Nat) : cutD (l.map enc) (some (k : Int)) none = (l.drop k).map enc := by
  unfold cutD
  rw [HT.sIx_nat, HT.sIx_none, List.length_map, ← List.map_drop, ← List.map_take]
  congr 1
  by_cases h : k ≤ l.length
  · rw [Nat.min_eq_left h, List.take_of_length_le (by rw [List.length_drop] <;> omega)]
  · rw [Nat.min_eq_right (by omega), List.drop_length, List.take_nil, List.drop_of_length_le (by omega)]
theorem sum_nats : ∀ {ns : List Nat}, (ns.map Int.ofNat).sum = (ns.sum : Int)
  | [] => rfl
  | x :: l => by
    rw [List.map_cons, List.sum_cons, List.sum_cons, sum_nats] <;> simp
theorem xd_sum {ns : List Nat} (ha : Xr K ta Γ (ns.map nat)) : Xd K (tCB (rSum K) (tCons ta tNil)) Γ (nat ns.sum) := fun He H σ G E Q q =>
  ha He H σ G E _ fun a xs H2 e2 l2 t2 => by
    have e : ns.map nat = (ns.map Int.ofNat).map PyData.int := by
      rw [List.map_map] <;> rfl
    rw [e] at t2
    rw [ints_of_tpAll t2] at l2
    refine ⟨a, _, rfl, l2, ?_⟩
    rw [sum_nats]
    exact q _ H2 e2 (.int _)
end
/-- a word between two statements: slots told by s -/
theorem q_cut {K : PySem.W.Frag} {He H : Hp} {σ : L2.St} {G : List (V × SD)} {D : Ends} {tu tz : TS} {Γ : List SD} {S : Type} (E : Env K He H σ Γ G) (I : S → Prop) (Γ' : S → List SD)
    (h1 : tu { D with nx := fun σ' H' => ∃ s, I s ∧ Env K He H' σ' (Γ' s) G } σ H) (h2 : ∀ s σ' H', I s → Env K He H' σ' (Γ' s) G → tz D σ' H') : tCut tu tz D σ H :=
  ⟨_, h1, fun σ' H' ⟨s, i, e⟩ => h2 s σ' H' i e⟩
end Q3

namespace Q3
open PySem L2 Evl
/-! ## the law's own moves: called, moves, begun -/
def sgn (b : Bool) : Int := if b then 1 else -1
def waysM (gs : List PGt) (lv : List Bool) (w : Nat) : List Int := ((gs.zip lv).filter fun p => p.2 && decide (p.1.1 = w)).map fun p => sgn p.1.2.1
theorem ways_up {gs : List PGt} {lv : List Bool} {w : Nat} : decide ((1 : Int) ∈ waysM gs lv w) = risM (gs.zip lv) w := by
  unfold waysM risM
  cases h : (gs.zip lv).any fun p => decide (p.1.1 = w) && p.2 && p.1.2.1 with
  | true =>
    obtain ⟨p, hp, q⟩ := List.any_eq_true.mp h
    rw [Bool.and_eq_true, Bool.and_eq_true] at q
    exact decide_eq_true (List.mem_map.mpr ⟨p, List.mem_filter.mpr ⟨hp, by rw [q.1.1, q.1.2]; rfl⟩, by rw [q.2]; rfl⟩)
  | false =>
    refine decide_eq_false fun z => ?_
    obtain ⟨p, hp, q⟩ := List.mem_map.mp z
    obtain ⟨h1, h2⟩ := List.mem_filter.mp hp
    rw [Bool.and_eq_true] at h2
    refine List.any_eq_false.mp h p h1 ?_
    have : p.1.2.1 = true := by
      cases hb : p.1.2.1 with
      | true => rfl
      | false =>
        rw [hb] at q
        exact absurd q (by decide)
    rw [h2.1, h2.2, this]
    rfl
theorem ways_down {gs : List PGt} {lv : List Bool} {w : Nat} : decide ((-1 : Int) ∈ waysM gs lv w) = falM (gs.zip lv) w := by
  unfold waysM falM
  cases h : (gs.zip lv).any fun p => decide (p.1.1 = w) && p.2 && !p.1.2.1 with
  | true =>
    obtain ⟨p, hp, q⟩ := List.any_eq_true.mp h
    rw [Bool.and_eq_true, Bool.and_eq_true] at q
    refine decide_eq_true (List.mem_map.mpr ⟨p, List.mem_filter.mpr ⟨hp, by rw [q.1.1, q.1.2]; rfl⟩, ?_⟩)
    have q2 := q.2
    cases hb : p.1.2.1 with
    | false => rfl
    | true =>
      rw [hb] at q2
      cases q2
  | false =>
    refine decide_eq_false fun z => ?_
    obtain ⟨p, hp, q⟩ := List.mem_map.mp z
    obtain ⟨h1, h2⟩ := List.mem_filter.mp hp
    rw [Bool.and_eq_true] at h2
    refine List.any_eq_false.mp h p h1 ?_
    have : p.1.2.1 = false := by
      cases hb : p.1.2.1 with
      | false => rfl
      | true =>
        rw [hb] at q
        exact absurd q (by decide)
    rw [h2.1, h2.2, this]
    rfl
def modeM (c w : Nat) : Int := if c >>> w &&& 1 = 0 then 1 else -1
theorem and1 (m : Nat) : m &&& 1 = 0 ∨ m &&& 1 = 1 := by
  rw [Nat.and_one_is_mod]
  omega
theorem mode_at {c w : Nat} : [PyData.int 1, PyData.int (-1)][c >>> w &&& 1]? = some (.int (modeM c w)) := by
  unfold modeM
  rcases and1 (c >>> w) with h | h
  · rw [h]
    rfl
  · rw [h]
    rfl
theorem wire_ways {gs : List PGt} {lv : List Bool} {c w : Nat} : (decide (modeM c w ∈ waysM gs lv w) && !decide (0 - modeM c w ∈ waysM gs lv w)) = wireM gs lv c w := by
  unfold wireM modeM
  by_cases h : c >>> w &&& 1 = 0
  · rw [if_pos h, if_pos h, ways_up, show (0 : Int) - 1 = -1 from rfl, ways_down]
  · rw [if_neg h, if_neg h, ways_down, show (0 : Int) - -1 = 1 from rfl, ways_up]
theorem zip_at {α β : Type} {l : List α} {l' : List β} {m : Nat} {p : α × β} (h : (l.zip l')[m]? = some p) : l[m]? = some p.1 ∧ l'[m]? = some p.2 := List.getElem?_zip_eq_some.mp h
def D_l_called : List SD → Res → Prop := fun as R => ∃ (n : List NetW) (c : Nat) (lv : List Bool), as = [.dat (encN n), .dat (nat c), .dat (encLv lv)] ∧ (gatesM n).length ≤ 50000 ∧ n.length ≤ 10000 ∧ (∀ x ∈ gatesM n, x.2.2.length ≤ 50000) ∧ (gatesM n).length = lv.length ∧ R = RL ((calledM n c lv).map encM)
/-- a net of small gates -/
structure OkN (n : List NetW) : Prop where
  gl : (gatesM n).length ≤ 50000
  nl : n.length ≤ 10000
  rl : ∀ x ∈ gatesM n, x.2.2.length ≤ 50000
def D_l_moves : List SD → Res → Prop := fun as R => ∃ (g : Gr) (n : List NetW) (d : St2 × List Bool), as = [.dat (encG g), .dat (encN n), .dat (encDu d)] ∧ ShortG g ∧ OkN n ∧ (gatesM n).length = d.2.length ∧ R = RL ((movesM g n d).map encM)
def D_l_begun : List SD → Res → Prop := fun as R => ∃ (g : Gr) (n : List NetW), as = [.dat (encG g), .dat (encN n)] ∧ OkN n ∧ R = RD (encDu (beginM g n))
section
variable {P : Program} {w : World} {K : PySem.W.Frag} {mg : Str → Option Value} {base : Heap} {C : Addr} {f : Nat → Addr} {fd : Nat → FuncData} {xc : Nat → Addr}
theorem ok_l_called (T : Top K mg C f fd xc) : FnOk P w K mg base CX0 2 (f 32) (fd 32) ["_law_net", "_law_code", "_law_levels"] (spG K D_l_called) := by
  refine Fun.pure T.l_called.F sc_l_called (fun as R hD => ?_) (by decide) fun cdv A outer s H E hr => ⟨_, (pss_cons (ps_set (i := 3) sc_l_called.nd rfl (Or.inr rfl) (pe_call (ok_l_gates T) (hr.mono (by decide)) (by rfl) T.l_gates.m T.l_gates.F.kp T.l_gates.b .nil pass0 (pa_cons (pv 0) pa_nil)))
  (pss_cons (ps_setLc (i := 4) (own := [("_law_g", 10)]) rfl sc_l_called.nd rfl rfl (sw_true rfl rfl rfl (by decide +kernel)) (pi_range1 rfl T.n_range (pa_cons (pe_callB call_len_seq (by rfl) T.n_len (by decide +kernel) (pa_cons (pv 3) pa_nil)) pa_nil)) (blkOk_by (own := [("_law_g", 10)]) (N := N_l_called) (sc := defScope s_l_called) (by decide +kernel)) (fun _ _ _ _ _ => (pg_name (i := 10) sc_l_called.nd rfl (Or.inl rfl))) (fun _ _ _ _ _ => (pts_one (pt_cmpR op_ne (pe_ix (ix_tupK K) (pv 2) (pv 10) (fun _ _ => rfl)) (pe_call (ok_l_up T) (hr.mono (by decide)) (by rfl) T.l_up.m T.l_up.F.kp T.l_up.b .nil pass0 (pa_cons (pe_ix (ix_tupK K) (pe_ix (ix_listK K) (pv 3) (pv 10) (fun _ _ => rfl)) pe_int (fun _ _ => rfl)) (pa_cons (pv 1) pa_nil))) (nomark _)))) (fun _ _ _ _ _ => (pe_tup (pa_cons pe_str (pa_cons (pv 10) pa_nil)))))
  (pss_cons (ps_for PassesOwn.never rfl (pi_tup (pv 0)) (pg_tup rfl (pgs_cons (pg_name (i := 5) sc_l_called.nd rfl (Or.inr rfl)) (pgs_cons (pg_name (i := 6) sc_l_called.nd rfl (Or.inl rfl)) (pgs_cons (pg_name (i := 7) sc_l_called.nd rfl (Or.inl rfl)) pgs_nil))))
  (pss_cons (ps_setLc (i := 8) (own := [("_law_one", 11), ("_law_level", 12)]) rfl sc_l_called.nd rfl rfl (sw_true rfl rfl rfl (by decide +kernel)) (pi_zipLT (by rfl) T.n_zip (pa_cons (pv 3) (pa_cons (pv 2) pa_nil))) (blkOk_by (own := [("_law_one", 11), ("_law_level", 12)]) (N := N_l_called) (sc := defScope s_l_called) (by decide +kernel)) (fun _ _ _ _ _ => (pg_tupK K 2 rfl (pgs_cons (pg_name (i := 11) sc_l_called.nd rfl (Or.inl rfl)) (pgs_cons (pg_name (i := 12) sc_l_called.nd rfl (Or.inl rfl)) pgs_nil)))) (fun _ _ _ _ _ => (pts_one (PW.pt (pw_and (pt_val (pv 12)) (pw_and1 (pt_cmpR op_eq (pe_ix (ix_tupK K) (pv 11) pe_int (fun _ _ => rfl)) (pv 5) (nomark _))))))) (fun _ _ _ _ _ => (pe_ix (ix_tupK K) (pv 11) pe_int (fun _ _ => rfl))))
  (pss_cons (ps_set (i := 9) sc_l_called.nd rfl (Or.inl rfl) (pe_ix ix_list (pe_lst (pa_cons pe_int (pa_cons (pe_un un_neg pe_int) pa_nil))) (pe_op op_and (pe_op op_shr (pv 1) (pv 5)) pe_int) (fun _ _ => rfl)))
  (pss_one (ps_if (PW.pt (pw_and (pt_cmpR op_in_seq (pv 9) (pv 8) (by rfl)) (pw_and1 (pt_cmpR op_notIn_seq (pe_op op_sub pe_int (pv 9)) (pv 8) (by rfl))))) (pss_one (ps_expr (pe_bm PySem.F.plainAttrs_list PySem.F.slot_list_append PySem.F.type_list_append mt_append (pv 4) (pa_cons (pe_tup (pa_cons pe_str (pa_cons (pv 5) pa_nil))) pa_nil)))) pss_nil)))))
  (pss_one (ps_ret (pv 4)))))), fun as R hD He σ Q E k => ?_⟩
  · obtain ⟨n, c, lv, rfl, _⟩ := hD
    rfl
  · obtain ⟨n, c, lv, rfl, gl, nl, rl, hl, rfl⟩ := hD
    have zl : ((gatesM n).zip lv).length = (gatesM n).length := by rw [List.length_zip]; omega
    refine q_setL E (xl_call (D := D_l_gates) (xa_d (xd_var rfl) xa_nil) ⟨_, rfl, gl, rfl⟩) fun a σ H e E => ?_
    refine q_setL E (xl_lc (l := List.range (gatesM n).length) (fun g => !decide (lv.getD g false = upM (gat (gatesM n) g) c)) (fun g => encM (1, (g : Int))) (xi_range (xd_lenL (xr_lst rfl) (List.length_map _)) (by omega)) (List.length_range).symm (by rw [List.length_range]; omega) trivial fun m x hx => ?_) fun b σ H e E => ?_
    · obtain ⟨hm, e0⟩ := range_at hx
      subst e0
      have hx := at_getD ((0, false, []) : PGt) hm
      have hy := at_getD false (l := lv) (m := x) (by omega)
      have hg : (gat (gatesM n) x).length ≤ 50000 := rl _ (List.mem_of_getElem? hx)
      refine ⟨_, _, gok_name, by decide, (xt_test (xd_neB (xd_at (xd_var (d := encLv lv) rfl) (xd_var rfl) (getmap hy)) (xd_call (D := D_l_up) (xa_d (xd_at (d := encGt (gat (gatesM n) x)) (xd_atL (xr_lst rfl) (xd_var rfl) (getmap hx)) xd_int rfl) (xa_d (xd_var rfl) xa_nil)) ⟨_, _, rfl, hg, rfl⟩))), fun hb => (xd_tup (xs_cons xd_str (xs_cons (xd_var rfl) xs_nil)) lenk)⟩
    · have e1 : ((List.range (gatesM n).length).filter fun g => !decide (lv.getD g false = upM (gat (gatesM n) g) c)).map (fun g : Nat => encM (1, (g : Int))) = (calledG (gatesM n) c lv).map encM := by
        unfold calledG
        simp only [bne_dec]
        rw [List.map_map] <;> rfl
      rw [e1] at E
      have cg : (calledG (gatesM n) c lv).length ≤ 50000 := by
        unfold calledG
        have := rng_len (p := fun g => lv.getD g false != upM (gat (gatesM n) g) c) (m := (gatesM n).length)
        rw [List.length_map]
        omega
      refine q_for (S := Unit) (fun m s => True) (fun m s => [.dat (encN n), .dat (nat c), .dat (encLv lv), .lst a ((gatesM n).map encLG), .lst b ((calledG (gatesM n) c lv ++ ((n.take m).filter fun x => wireM (gatesM n) lv c x.1).map fun x : NetW => ((2, (x.1 : Int)) : Mv)).map encM), .any, .any, .any, .any, .any, .any, .any, .any]) () E (xi_encT (0, [], []) (xd_var rfl)) trivial (by
        rw [List.take_zero, List.filter_nil, List.map_nil, List.append_nil]
        exact .refl _) (fun _ _ _ _ => trivial) (fun m hm => gok3) (fun G m s σ H hm is E => ?_) (fun s σ H is E => ?_)
      · have hx := at_getD ((0, [], []) : NetW) hm
        generalize n.getD m (0, [], []) = x at hx E
        refine q_setL E (xl_lc (l := (gatesM n).zip lv) (fun p => p.2 && decide (p.1.1 = x.1)) (fun p => .int (sgn p.1.2.1)) (xi_zipME (0, false, []) false rfl (xd_var rfl) hl) zl.symm (by rw [zl]; omega) rfl fun j p hp => ?_) fun d σ H e E => ?_
        · obtain ⟨h1, h2⟩ := zip_at hp
          exact ⟨_, _, gok2, by decide, (by
            rw [getD_of _ h1, getD_of _ h2]
            exact xt_and (xt_B (xd_var rfl)) fun h => (xt_test (xd_eqN (xd_at (xd_var (d := encLG p.1) rfl) xd_int rfl) (xd_var rfl)))), fun hb => (by
            rw [getD_of _ h1, getD_of _ h2]
            exact xd_at (xd_var (d := encLG p.1) rfl) xd_int rfl)⟩
        · have e3 : (((gatesM n).zip lv).filter fun p => p.2 && decide (p.1.1 = x.1)).map (fun p => PyData.int (sgn p.1.2.1)) = (waysM (gatesM n) lv x.1).map PyData.int := by
            unfold waysM
            rw [List.map_map] <;> rfl
          rw [e3] at E
          refine q_set E (d := .int (modeM c x.1)) (xd_atL (xr_new (xl_lst (xs_cons xd_int (xs_cons (xd_un xd_int) xs_nil)) lenk)) (xd_and (xd_shr (xd_var rfl) (xd_var rfl)) xd_int) mode_at) fun σ H e E => ?_
          refine s_when E (b := wireM (gatesM n) lv c x.1) (by
            rw [← wire_ways]
            exact xt_and (xt_test (xd_inF (xd_var rfl) (xr_lst rfl))) fun h => (xt_test (xd_niF (xd_II xd_int (xd_var rfl)) (xr_lst rfl)))) (fun hb H e E => ?_) (fun hb H e E => ?_)
          · refine s_app E rfl (xd_tup (xs_cons xd_str (xs_cons (xd_var rfl) xs_nil)) lenk) (by
              have z1 := flt_len (p := fun x : NetW => wireM (gatesM n) lv c x.1) (l := n) (m := m)
              rw [List.length_map, List.length_append, List.length_map]
              omega) fun H E => ⟨(), trivial, ?_⟩
            have e2 : (calledG (gatesM n) c lv ++ ((n.take (m + 1)).filter fun x => wireM (gatesM n) lv c x.1).map fun x : NetW => ((2, (x.1 : Int)) : Mv)).map encM = (calledG (gatesM n) c lv ++ ((n.take m).filter fun x => wireM (gatesM n) lv c x.1).map fun x : NetW => ((2, (x.1 : Int)) : Mv)).map encM ++ [encM (2, (x.1 : Int))] := by
              rw [flt_yes (p := fun x : NetW => wireM (gatesM n) lv c x.1) hx hb]
              simp only [List.map_append, List.append_assoc, List.map_cons, List.map_nil]
            rw [e2]
            exact E.wk (.same (.same (.same (.same (.same (.drop (.drop (.drop (.drop (.drop (.drop (.drop (.drop .nil)))))))))))))
          · refine ⟨(), trivial, ?_⟩
            rw [flt_no (p := fun x : NetW => wireM (gatesM n) lv c x.1) hx hb]
            exact E.wk (.same (.same (.same (.same (.same (.drop (.drop (.drop (.drop (.drop (.drop (.drop (.drop .nil)))))))))))))
      · rw [List.take_length] at E
        exact s_retV E rfl k
theorem ok_l_moves (T : Top K mg C f fd xc) : FnOk P w K mg base CX0 3 (f 33) (fd 33) ["_law_graph_here", "_law_net", "_law_play"] (spG K D_l_moves) := by
  refine Fun.pure T.l_moves.F sc_l_moves (fun as R hD => ?_) (by decide) fun cdv A outer s H E hr => ⟨_, (pss_cons (ps_set (i := 3) sc_l_moves.nd rfl (Or.inl rfl) (pe_lst pa_nil))
  (pss_cons (ps_for PassesOwn.never rfl (pi_range1 rfl T.n_range (pa_cons (pe_callB call_len_seq (by rfl) T.n_len (by decide +kernel) (pa_cons (pe_ix ix_tup (pv 0) pe_int (fun _ _ => rfl)) pa_nil)) pa_nil)) (pg_name (i := 4) sc_l_moves.nd rfl (Or.inl rfl))
  (pss_one (ps_if (PW.pt (pw_and (pt_cmpR op_eq (pe_ix ix_tup (pe_ix ix_tup (pe_ix ix_tup (pv 0) pe_int (fun _ _ => rfl)) (pe_ix ix_tup (pe_ix ix_tup (pe_ix ix_tup (pv 0) pe_int (fun _ _ => rfl)) (pv 4) (fun _ _ => rfl)) pe_int (fun _ _ => rfl)) (fun _ _ => rfl)) pe_int (fun _ _ => rfl)) pe_str (nomark _)) (pw_and1 (pt_val (pe_call (ok_l_can T) (hr.mono (by decide)) (by rfl) T.l_can.m T.l_can.F.kp T.l_can.b .nil pass0 (pa_cons (pv 0) (pa_cons (pe_ix ix_tup (pv 2) pe_int (fun _ _ => rfl)) (pa_cons (pv 4) pa_nil)))))))) (pss_one (ps_expr (pe_bm PySem.F.plainAttrs_list PySem.F.slot_list_append PySem.F.type_list_append mt_append (pv 3) (pa_cons (pe_tup (pa_cons pe_str (pa_cons (pv 4) pa_nil))) pa_nil)))) pss_nil)))
  (pss_one (ps_ret (pe_op op_cat (pv 3) (pe_call (ok_l_called T) (hr.mono (by decide)) (by rfl) T.l_called.m T.l_called.F.kp T.l_called.b .nil pass0 (pa_cons (pv 1) (pa_cons (pe_ix ix_tup (pe_ix ix_tup (pv 2) pe_int (fun _ _ => rfl)) pe_int (fun _ _ => rfl)) (pa_cons (pe_ix ix_tup (pv 2) pe_int (fun _ _ => rfl)) pa_nil))))))))), fun as R hD He σ Q E k => ?_⟩
  · obtain ⟨g, n, d, rfl, _⟩ := hD
    rfl
  · obtain ⟨g, n, d, rfl, S, O, hl, rfl⟩ := hD
    have gl := O.gl
    have nl := O.nl
    have sl := S.S.2
    refine q_setL E (xl_lst xs_nil lenk) fun a σ H e E => ?_
    refine q_for (S := Unit) (fun m s => True) (fun m s => [.dat (encG g), .dat (encN n), .dat (encDu d), .lst a ((((List.range m).filter fun k => decide (kindOf g k = "given") && canM (stp g k) d.1.1).map fun g : Nat => ((0, (g : Int)) : Mv)).map encM), .any]) () E (xi_range (xd_len (xd_at (xd_var rfl) xd_int rfl) (List.length_map _)) (by omega)) trivial (.refl _) (fun _ _ _ _ => trivial) (fun m hm => gok_name) (fun G m s σ H hm is E => ?_) (fun s σ H is E => ?_)
    · have hs := stp_at hm
      have hw := kind_at S.S hm
      refine s_when E (b := decide (kindOf g m = "given") && canM (stp g m) d.1.1) (xt_and (xt_test (xd_eqS (xd_at (xd_at (d := encW (g.wires.getD (stp g m).w ("", ""))) (xd_at (xd_var rfl) xd_int rfl) (xd_at (xd_at (d := encS (stp g m)) (xd_at (xd_var rfl) xd_int rfl) (xd_var rfl) (getmap hs)) xd_int rfl) (getmap hw)) xd_int rfl) xd_str)) fun h => (xt_B (xd_call (D := D_l_can) (xa_d (xd_var rfl) (xa_d (xd_at (d := encSt d.1) (xd_var (d := encDu d) rfl) xd_int rfl) (xa_d (xd_var rfl) xa_nil))) ⟨_, _, _, _, rfl, hs, S.at_ hm, rfl⟩))) (fun hb H e E => ?_) (fun hb H e E => ?_)
      · refine s_app E rfl (xd_tup (xs_cons xd_str (xs_cons (xd_var rfl) xs_nil)) lenk) (by
          rw [List.length_map, List.length_map]
          have := rng_len (p := fun k => decide (kindOf g k = "given") && canM (stp g k) d.1.1) (m := m)
          omega) fun H E => ⟨(), trivial, ?_⟩
        rw [rng_yes (p := fun k => decide (kindOf g k = "given") && canM (stp g k) d.1.1) hb, List.map_append, List.map_append]
        exact E.wk (.same (.same (.same (.same (.drop .nil)))))
      · refine ⟨(), trivial, ?_⟩
        rw [rng_no (p := fun k => decide (kindOf g k = "given") && canM (stp g k) d.1.1) hb]
        exact E.wk (.same (.same (.same (.same (.drop .nil)))))
    · have cl := called_len (n := n) (c := d.1.2) (lv := d.2)
      unfold movesM at k
      rw [List.map_append] at k
      refine s_retL E (xl_catV rfl (xl_call (D := D_l_called) (xa_d (xd_var rfl) (xa_d (xd_at (xd_at (d := encSt d.1) (xd_var (d := encDu d) rfl) xd_int rfl) xd_int rfl) (xa_d (xd_at (d := encLv d.2) (xd_var (d := encDu d) rfl) xd_int rfl) xa_nil))) ⟨_, _, _, rfl, O.gl, O.nl, O.rl, hl, rfl⟩) (by
        have := rng_len (p := fun k => decide (kindOf g k = "given") && canM (stp g k) d.1.1) (m := g.steps.length)
        rw [List.length_map, List.length_map, List.length_map]
        omega)) k
theorem ok_l_begun (T : Top K mg C f fd xc) : FnOk P w K mg base CX0 2 (f 36) (fd 36) ["_law_graph_here", "_law_net"] (spG K D_l_begun) := by
  refine Fun.pure T.l_begun.F sc_l_begun (fun as R hD => ?_) (by decide) fun cdv A outer s H E hr => ⟨_, (pss_one (ps_ret (pe_tup (pa_cons (pe_tup (pa_cons (pe_ix ix_tup (pv 0) pe_int (fun _ _ => rfl)) (pa_cons (pe_ix ix_tup (pv 0) pe_int (fun _ _ => rfl)) pa_nil))) (pa_cons (pe_callTy call_tuple_of (by rfl) T.n_tuple (by decide +kernel) (pa_cons (pe_lc (own := [("_law_one", 2)]) (by rfl) sc_l_begun.nd (pi_list (pe_call (ok_l_gates T) (hr.mono (by decide)) (by rfl) T.l_gates.m T.l_gates.F.kp T.l_gates.b .nil pass0 (pa_cons (pv 1) pa_nil))) (blkOk_by (own := [("_law_one", 2)]) (N := N_l_begun) (sc := defScope s_l_begun) (by decide +kernel)) (fun _ _ _ _ _ => (pg_name (i := 2) sc_l_begun.nd rfl (Or.inl rfl))) (fun _ _ _ _ _ => pts_nil) (fun _ _ _ _ _ => (pe_call (ok_l_up T) (hr.mono (by decide)) (by rfl) T.l_up.m T.l_up.F.kp T.l_up.b .nil pass0 (pa_cons (pe_ix (ix_tupK K) (pv 2) pe_int (fun _ _ => rfl)) (pa_cons (pe_ix (ix_tupK K) (pv 0) pe_int (fun _ _ => rfl)) pa_nil))))) pa_nil)) pa_nil))))), fun as R hD He σ Q E k => ?_⟩
  · obtain ⟨g, n, rfl, _⟩ := hD
    rfl
  · obtain ⟨g, n, rfl, O, rfl⟩ := hD
    have gl := O.gl
    unfold encDu beginM encLv at k
    rw [List.map_map] at k
    refine s_ret E (xd_tup (xs_cons (xd_tup (xs_cons (xd_at (xd_var rfl) xd_int rfl) (xs_cons (xd_at (xd_var rfl) xd_int rfl) xs_nil)) lenk) (xs_cons (xd_tupOf (xr_new (xl_lcAll (l := gatesM n) (fun x => PyData.bool (upM x.2.2 g.code)) (xi_encN (0, false, []) (xl_call (D := D_l_gates) (xa_d (xd_var rfl) xa_nil) ⟨_, rfl, gl, rfl⟩)) rfl (by omega) trivial fun m x hx => ⟨_, _, gok_name, by decide, (by
      rw [getD_of _ hx]
      exact xd_call (D := D_l_up) (xa_d (xd_at (d := encGt x.2.2) (xd_var (d := encLG x) rfl) xd_int rfl) (xa_d (xd_at (xd_var (d := encG g) rfl) xd_int rfl) xa_nil)) ⟨_, _, rfl, O.rl x (List.mem_of_getElem? hx), rfl⟩)⟩))) xs_nil)) lenk) k
end

end Q3

namespace Q3
open PySem L2 Evl
/-! ## the law's own move: gone -/
/-- the new due state in a new list, beside what is told -/
def RGone (r : (St2 × List Bool) × Told) : Res := fun H v H2 => ∃ a x y, v = .ref a ∧ H a = none ∧ H2 a = some (.lst [x, y]) ∧ Tp H2 x (encDu r.1) ∧ ToldAt H H2 y r.2
def D_l_gone : List SD → Res → Prop := fun as R => ∃ (g : Gr) (n : List NetW) (d : St2 × List Bool) (m : Mv), as = [.dat (encG g), .dat (encN n), .dat (encDu d), .dat (encM m)] ∧ ShortG g ∧ OkN n ∧ (gatesM n).length = d.2.length ∧ SafeAt g d.1 ∧ m ∈ movesM g n d ∧ R = RGone (goM g n d m)
theorem set_parts {l : List Bool} {k : Nat} {b : Bool} (h : k < l.length) : l.take k ++ [b] ++ l.drop (k + 1) = l.set k b := by
  rw [List.set_eq_take_append_cons_drop, if_pos h, List.append_assoc]
  rfl
theorem pair_first {K : PySem.W.Frag} {He H : Hp} {σ : L2.St} {Γ : List SD} {G : List (V × SD)} {D : Ends} {te tf : TE} {d : PyData} (h : Xd K te Γ d) (E : Q3.Env K He H σ Γ G)
    (k : ∀ v H2, Ex H H2 → Tp H2 v d → tf σ H2 fun w H3 => 2 ≤ sizeLine ∧ ∀ p, H3 p = none → D.rt (.ref p) (upd H3 p (.lst [v, w]))) : tRet (tLst (tCons te (tCons tf tNil))) D σ H := by
  refine h He H σ G E _ fun v H2 e t => ?_
  exact k v H2 e t
section
variable {P : Program} {w : World} {K : PySem.W.Frag} {mg : Str → Option Value} {base : Heap} {C : Addr} {f : Nat → Addr} {fd : Nat → FuncData} {xc : Nat → Addr}
theorem ok_l_gone (T : Top K mg C f fd xc) : FnOk P w K mg base CX0 3 (f 35) (fd 35) ["_law_graph_here", "_law_net", "_law_play", "_law_move"] (spG K D_l_gone) := by
  refine Fun.pure T.l_gone.F sc_l_gone (fun as R hD => ?_) (by decide) fun cdv A outer s H E hr => ⟨_, (pss_cons (ps_asg (pv 2) (pg_tup rfl (pgs_cons (pg_name (i := 4) sc_l_gone.nd rfl (Or.inl rfl)) (pgs_cons (pg_name (i := 5) sc_l_gone.nd rfl (Or.inl rfl)) pgs_nil))))
  (pss_cut (ps_if (pt_cmpR op_eq (pe_ix ix_tup (pv 3) pe_int (fun _ _ => rfl)) pe_str (nomark _)) (pss_cons (ps_set (i := 6) sc_l_gone.nd rfl (Or.inl rfl) (pe_ix ix_tup (pv 3) pe_int (fun _ _ => rfl)))
  (pss_one (ps_set (i := 5) sc_l_gone.nd rfl (Or.inl rfl) (pe_op op_catA (pe_op op_catA (pe_slice sl_tupA (pv 5) po_none (po_some (pv 6))) (pe_tup (pa_cons (pe_not (pe_ix ix_tup (pv 5) (pv 6) (fun _ _ => rfl))) pa_nil))) (pe_slice sl_tupA (pv 5) (po_some (pe_op op_add (pv 6) pe_int)) po_none))))) (pss_one (ps_if (pt_cmpR op_eq (pe_ix ix_tup (pv 3) pe_int (fun _ _ => rfl)) pe_str (nomark _)) (pss_one (ps_set (i := 4) sc_l_gone.nd rfl (Or.inl rfl) (pe_call (ok_l_behind T) (hr.mono (by decide)) (by rfl) T.l_behind.m T.l_behind.F.kp T.l_behind.b .nil pass0 (pa_cons (pv 0) (pa_cons (pv 4) (pa_cons (pe_ix ix_tup (pv 3) pe_int (fun _ _ => rfl)) pa_nil)))))) (pss_cons (ps_set (i := 7) sc_l_gone.nd rfl (Or.inl rfl) (pe_call (ok_l_wire_step T) (hr.mono (by decide)) (by rfl) T.l_wire_step.m T.l_wire_step.F.kp T.l_wire_step.b .nil pass0 (pa_cons (pv 0) (pa_cons (pv 4) (pa_cons (pe_ix ix_tup (pv 3) pe_int (fun _ _ => rfl)) pa_nil)))))
  (pss_cons (ps_if (pt_cmpR op_isN (pv 7) pe_non (nomark _)) (pss_one (ps_ret (pe_lst (pa_cons (pv 2) (pa_cons (pe_tup (pa_cons pe_str (pa_cons (pe_ix ix_tup (pv 3) pe_int (fun _ _ => rfl)) pa_nil))) pa_nil))))) pss_nil)
  (pss_one (ps_set (i := 4) sc_l_gone.nd rfl (Or.inl rfl) (pe_call (ok_l_behind T) (hr.mono (by decide)) (by rfl) T.l_behind.m T.l_behind.F.kp T.l_behind.b .nil pass0 (pa_cons (pv 0) (pa_cons (pv 4) (pa_cons (pv 7) pa_nil)))))))))))
  (pss_cons (ps_set (i := 8) sc_l_gone.nd rfl (Or.inl rfl) (pe_call (ok_l_called T) (hr.mono (by decide)) (by rfl) T.l_called.m T.l_called.F.kp T.l_called.b .nil pass0 (pa_cons (pv 1) (pa_cons (pe_ix ix_tup (pe_ix ix_tup (pv 2) pe_int (fun _ _ => rfl)) pe_int (fun _ _ => rfl)) (pa_cons (pe_ix ix_tup (pv 2) pe_int (fun _ _ => rfl)) pa_nil)))))
  (pss_cons (ps_set (i := 9) sc_l_gone.nd rfl (Or.inr rfl) (pe_call (ok_l_called T) (hr.mono (by decide)) (by rfl) T.l_called.m T.l_called.F.kp T.l_called.b .nil pass0 (pa_cons (pv 1) (pa_cons (pe_ix ix_tup (pv 4) pe_int (fun _ _ => rfl)) (pa_cons (pv 5) pa_nil)))))
  (pss_cons (ps_setLc (i := 10) (own := [("_law_one", 11)]) rfl sc_l_gone.nd rfl rfl (sw_true rfl rfl rfl (by decide +kernel)) (pi_list (pv 8)) (blkOk_by (own := [("_law_one", 11)]) (N := N_l_gone) (sc := defScope s_l_gone) (by decide +kernel)) (fun _ _ _ _ _ => (pg_name (i := 11) sc_l_gone.nd rfl (Or.inl rfl))) (fun _ _ _ _ _ => (pts_one (PW.pt (pw_and (pt_cmpR (op_neDK K hr.units) (pv 11) (pv 3) (nomark _)) (pw_and1 (pt_cmpR (op_notInDK K (hu65 hr)) (pv 11) (pv 9) (by rfl))))))) (fun _ _ _ _ _ => (pv 11)))
  (pss_cons (ps_if (pt_cmpR (op_neD hr.units) (pv 10) (pe_lst pa_nil) (nomark _)) (pss_one (ps_ret (pe_lst (pa_cons (pe_tup (pa_cons (pv 4) (pa_cons (pv 5) pa_nil))) (pa_cons (pe_tup (pa_cons pe_str (pa_cons (pv 10) pa_nil))) pa_nil))))) pss_nil)
  (pss_one (ps_ret (pe_lst (pa_cons (pe_tup (pa_cons (pv 4) (pa_cons (pv 5) pa_nil))) (pa_cons pe_non pa_nil))))))))))), fun as R hD He σ Q E k => ?_⟩
  · obtain ⟨g, n, d, m, rfl, _⟩ := hD
    rfl
  · obtain ⟨g, n, ⟨st, lv⟩, m, rfl, S, O, hl, hsf, hm, rfl⟩ := hD
    have hl' : (gatesM n).length = lv.length := hl
    have hm2 : MvOk m := okMoves m hm
    have O1 := O.gl
    have O2 := O.nl
    refine q_asg E (xd_var rfl) gok2 fun σ H e E => ?_
    refine q_cut (S := St2 × List Bool) E (fun s => goM g n (st, lv) m = (s, toldM n (st, lv) s m) ∧ s.2.length = lv.length) (fun s => [.dat (encG g), .dat (encN n), .dat (encDu (st, lv)), .dat (encM m), .dat (encSt s.1), .dat (encLv s.2), .any, .any, .any, .any, .any, .any]) ?_ ?_
    · refine s_if (b := decide (wd m.1 = "gate")) E (xt_test (xd_eqS (xd_at (xd_var (d := encM m) rfl) xd_int rfl) xd_str)) (fun hb H e E => ?_) (fun hb H e E => ?_)
      · have h1 : m.1 = 1 := wd_inj hm2 (by decide) (of_decide_eq_true hb)
        obtain ⟨j, rfl, hj⟩ : ∃ j : Nat, m = (1, (j : Int)) ∧ j < (gatesM n).length := by
          rcases moves_mem hm with ⟨j, rfl, _⟩ | ⟨j, rfl, q⟩ | ⟨x, _, rfl⟩
          · cases h1
          · exact ⟨j, rfl, q⟩
          · cases h1
        have hj2 : j < lv.length := by omega
        have hlk := at_getD false hj2
        refine q_set E (xd_at (d := nat j) (xd_var (d := encM (1, (j : Int))) rfl) xd_int rfl) fun σ H e E => ?_
        refine s_set E (d := encLv (lv.set j (!lv.getD j false))) (xd_is (xd_catT (xd_catT (xd_slT (ds := lv.map .bool) (xd_var rfl) xo_none (xo_some (xd_var rfl))) (xd_tup (xs_cons (xd_notV (xd_at (xd_var (d := encLv lv) rfl) (xd_var rfl) (getmap hlk))) xs_nil) lenk) (by
          rw [cut_to, List.length_map, List.length_take]
          simp only [List.length_cons, List.length_nil]
          omega)) (xd_slT (ds := lv.map .bool) (xd_var rfl) (xo_some (xd_II (xd_var rfl) xd_int)) xo_none) (by
          rw [cut_to, show ((j : Int) + 1) = ((j + 1 : Nat) : Int) from rfl, cut_from, List.length_append, List.length_map, List.length_map, List.length_take, List.length_drop]
          simp only [List.length_cons, List.length_nil]
          omega)) (by
          rw [cut_to, show ((j : Int) + 1) = ((j + 1 : Nat) : Int) from rfl, cut_from]
          unfold encLv
          rw [← set_parts hj2, List.map_append, List.map_append]
          rfl)) fun σ H e E => ⟨(st, lv.set j (!lv.getD j false)), ⟨?_, List.length_set⟩, E.wk (.same (.same (.same (.same (.same (.same (.drop (.drop (.drop (.drop (.drop (.drop .nil))))))))))))⟩
        unfold goM
        rw [if_pos rfl, Int.toNat_natCast]
      · have h1 : m.1 ≠ 1 := fun z => by
          rw [z] at hb
          exact absurd hb (by decide +kernel)
        refine s_if (b := decide (wd m.1 = "step")) E (xt_test (xd_eqS (xd_at (xd_var (d := encM m) rfl) xd_int rfl) xd_str)) (fun hb H e E => ?_) (fun hb H e E => ?_)
        · have h2 : m.1 = 0 := wd_inj hm2 (by decide) (of_decide_eq_true hb)
          obtain ⟨j, rfl, hj, hc⟩ : ∃ j : Nat, m = (0, (j : Int)) ∧ j < g.steps.length ∧ canM (stp g j) st.1 = true := by
            rcases moves_mem hm with ⟨j, rfl, q, q2⟩ | ⟨j, rfl, q⟩ | ⟨x, _, rfl⟩
            · exact ⟨j, rfl, q, q2⟩
            · cases h2
            · cases h2
          refine s_set E (xd_call (D := D_l_behind) (xa_d (xd_var rfl) (xa_d (xd_var rfl) (xa_d (xd_at (d := nat j) (xd_var (d := encM (0, (j : Int))) rfl) xd_int rfl) xa_nil))) ⟨_, _, _, _, rfl, stp_at hj, S.S.at_ hj, rfl⟩) fun σ H e E => ⟨(behM (stp g j) st, lv), ⟨?_, rfl⟩, E.wk (.same (.same (.same (.same (.same (.same (.drop (.drop (.drop (.drop (.drop (.drop .nil))))))))))))⟩
          unfold goM
          rw [if_neg (by show ¬ 0 = 1; decide), if_pos rfl, Int.toNat_natCast]
        · have h2 : m.1 ≠ 0 := fun z => by
            rw [z] at hb
            exact absurd hb (by decide +kernel)
          obtain ⟨x, hx, rfl⟩ : ∃ x ∈ n, m = (2, (x.1 : Int)) := by
            rcases moves_mem hm with ⟨j, rfl, q, q2⟩ | ⟨j, rfl, q⟩ | ⟨x, q, rfl⟩
            · exact absurd rfl h2
            · exact absurd rfl h1
            · exact ⟨x, q, rfl⟩
          refine q_set E (xd_call (D := D_l_wire_step) (xa_d (xd_var rfl) (xa_d (xd_var rfl) (xa_d (xd_at (d := nat x.1) (xd_var (d := encM (2, (x.1 : Int))) rfl) xd_int rfl) xa_nil))) ⟨_, _, _, rfl, S, rfl⟩) fun σ H e E => ?_
          cases hw : wstepM g st x.1 with
          | none =>
            rw [hw] at E
            refine q_when (b := true) E (xt_test (xd_isN (d := .none) (xd_var rfl))) (fun hb H e E => ?_) (fun hb => nomatch hb)
            have hg0 : goM g n (st, lv) (2, (x.1 : Int)) = ((st, lv), .astray (x.1 : Int)) := by
              unfold goM
              rw [if_neg (by show ¬ 2 = 1; decide), if_neg (by show ¬ 2 = 0; decide), Int.toNat_natCast]
              show (match wstepM g st x.1 with | none => _ | some k => _) = _
              rw [hw]
            rw [hg0] at k
            refine s_retL E (xl_lst (xs_cons (xd_var rfl) (xs_cons (xd_tup (xs_cons xd_str (xs_cons (xd_at (d := nat x.1) (xd_var (d := encM (2, (x.1 : Int))) rfl) xd_int rfl) xs_nil)) lenk) xs_nil)) lenk) fun v H' e' ⟨a, xs, ea, n1, h1, t1⟩ => k v H' e' ?_
            cases t1 with
            | cons t1 t2 =>
              cases t2 with
              | cons t2 t3 =>
                cases t3
                exact ⟨a, _, _, ea, n1, h1, t1, t2⟩
          | some j =>
            rw [hw] at E
            refine q_when (b := false) E (xt_test (xd_isN (d := nat j) (xd_var rfl))) (fun hb => nomatch hb) (fun hb H e E => ?_)
            have hk := List.find?_some hw
            have hkl : j < g.steps.length := List.mem_range.mp (List.mem_of_find?_eq_some hw)
            refine s_set E (xd_call (D := D_l_behind) (xa_d (xd_var rfl) (xa_d (xd_var rfl) (xa_d (xd_var rfl) xa_nil))) ⟨_, _, _, _, rfl, stp_at hkl, S.S.at_ hkl, rfl⟩) fun σ H e E => ⟨(behM (stp g j) st, lv), ⟨?_, rfl⟩, E.wk (.same (.same (.same (.same (.same (.same (.drop (.drop (.drop (.drop (.drop (.drop .nil))))))))))))⟩
            unfold goM
            rw [if_neg (by show ¬ 2 = 1; decide), if_neg (by show ¬ 2 = 0; decide), Int.toNat_natCast]
            show (match wstepM g st x.1 with | none => _ | some k => _) = _
            rw [hw]
    · rintro s σ H ⟨hgo, hs⟩ E
      rw [hgo] at k
      refine q_setL E (xl_call (D := D_l_called) (xa_d (xd_var rfl) (xa_d (xd_at (xd_at (d := encSt st) (xd_var (d := encDu (st, lv)) rfl) xd_int rfl) xd_int rfl) (xa_d (xd_at (d := encLv lv) (xd_var (d := encDu (st, lv)) rfl) xd_int rfl) xa_nil))) ⟨_, _, _, rfl, O.gl, O.nl, O.rl, hl', rfl⟩) fun aa σ H e E => ?_
      refine q_setL E (xl_call (D := D_l_called) (xa_d (xd_var rfl) (xa_d (xd_at (xd_var (d := encSt s.1) rfl) xd_int rfl) (xa_d (xd_var rfl) xa_nil))) ⟨_, _, _, rfl, O.gl, O.nl, O.rl, by rw [hs]; exact hl', rfl⟩) fun nn σ H e E => ?_
      refine q_setL E (xl_is (xl_lc (l := calledM n st.2 lv) (fun x => !decide (x = m) && !decide (x ∈ calledM n s.1.2 s.2)) encM (xi_encO (0, 0) rfl) rfl (go_len O1 O2) rfl fun j x hx => ⟨_, _, gok_name, by decide, (by
            rw [getD_of _ hx]
            have hxo : MvOk x := okCalled x (List.mem_of_getElem? hx)
            exact xt_and (xt_test (xd_is (xd_neD (d := encM x) (e := encM m) (xd_var rfl) (xd_var rfl) (shM x) (shM m)) (by rw [eqvM hxo hm2]))) fun h => (xt_test (xd_is (xd_niD (d := encM x) (xd_var rfl) (xr_lst rfl) (shM x) (shMs _)) (by rw [anyM hxo okCalled])))), fun hb => (by
            rw [getD_of _ hx]
            exact xd_var rfl)⟩) (show _ = (lostM n (st, lv) s m).map encM from rfl)) fun c σ H e E => ?_
      refine q_when (b := !decide (lostM n (st, lv) s m = [])) E (xt_test (xd_is (xd_neL (xr_lst rfl) (xr_new (xl_lst xs_nil lenk)) (shMs _) (shMs [])) (by
        have z := eqvMs (l := lostM n (st, lv) s m) (l' := []) (fun x hx => okCalled x (List.mem_filter.mp hx).1) (fun x hx => nomatch hx)
        rw [List.map_nil] at z
        rw [z]))) (fun hb H e E => ?_) (fun hb H e E => ?_)
      · have hne : lostM n (st, lv) s m ≠ [] := fun z => by
          rw [decide_eq_true z] at hb
          cases hb
        rw [show toldM n (st, lv) s m = .vanished (lostM n (st, lv) s m) from if_neg hne] at k
        refine pair_first (xd_tup (xs_cons (xd_var rfl) (xs_cons (xd_var rfl) xs_nil)) lenk : Xd K (tTup (tCons (tVar 4) (tCons (tVar 5) tNil))) _ (encDu s)) E fun v H2 e2 t2 => ?_
        have E2 := E.mono e2
        rcases E2.at_ 10 _ rfl with z | ⟨vc, h1, rfl, h3, ys, h4, h5⟩
        · cases z
        · refine ⟨_, h1, by show 2 ≤ sizeLine; decide, fun b hb7 => ⟨by show 2 ≤ sizeLine; decide, fun a ha7 => ?_⟩⟩
          have ex1 : Ex H2 (upd H2 b (.tup [.str "vanished", .ref c])) := Ex.new hb7
          have ex2 : Ex (upd H2 b (.tup [.str "vanished", .ref c])) (upd (upd H2 b (.tup [.str "vanished", .ref c])) a (.lst [v, .ref b])) := Ex.new ha7
          refine k _ _ (E2.ex.trans (ex1.trans ex2)) ⟨a, v, .ref b, rfl, fresh_back E2.ex (fresh_back ex1 ha7), upd_same, t2.ex (ex1.trans ex2), ?_⟩
          exact ⟨b, c, ys, rfl, ex2 _ _ upd_same, (ex1.trans ex2) _ _ h4, h5.ex (ex1.trans ex2), fresh_back E2.ex hb7, h3⟩
      · have he : lostM n (st, lv) s m = [] := by
          cases z : lostM n (st, lv) s m with
          | nil => rfl
          | cons y ys =>
            rw [z] at hb
            exact absurd hb (by simp)
        rw [show toldM n (st, lv) s m = .non from if_pos he] at k
        refine s_retL E (xl_lst (xs_cons (xd_tup (xs_cons (xd_var rfl) (xs_cons (xd_var rfl) xs_nil)) lenk) (xs_cons xd_non xs_nil)) lenk) fun v H' e' ⟨a, xs, ea, n1, h1, t1⟩ => k v H' e' ?_
        cases t1 with
        | cons t1 t2 =>
          cases t2 with
          | cons t2 t3 =>
            cases t3
            exact ⟨a, _, _, ea, n1, h1, t1, t2.non_eq⟩
end

end Q3

namespace Q3
open PySem L2 Evl
/-! ## same, within, refused, others -/
theorem shpSt {st : St2} : Shp (encSt st) 1 := shp_tup fun d hd => by
  simp only [List.mem_cons, List.not_mem_nil, or_false] at hd
  rcases hd with rfl | rfl
  · exact shp_int
  · exact shp_int
theorem shpLv {lv : List Bool} : Shp (encLv lv) 1 := shp_tup (shp_map fun b => shp_bool)
theorem eqvSt {a b : St2} : PyData.eqv (encSt a) (encSt b) = decide (a = b) := by
  obtain ⟨a1, a2⟩ := a
  obtain ⟨b1, b2⟩ := b
  show PyData.eqv (.tuple [nat a1, nat a2]) (.tuple [nat b1, nat b2]) = _
  simp only [PyData.eqv, PyData.eqvAll, Bool.and_true]
  by_cases e1 : a1 = b1 <;> by_cases e2 : a2 = b2 <;> simp [e1, e2]
  all_goals omega
theorem eqvB (a b : Bool) : PyData.eqv (.bool a) (.bool b) = decide (a = b) := by
  simp only [PyData.eqv]
  cases a <;> cases b <;> decide
theorem eqvLv {a b : List Bool} : PyData.eqv (encLv a) (encLv b) = decide (a = b) := by
  unfold encLv
  simp only [PyData.eqv]
  exact eqvAll_map fun x _ y _ => eqvB x y
def D_l_same (C : Addr) : List SD → Res → Prop := fun as R => ∃ (p : Addr) (g : Gr) (n : List NetW) (d : St2 × List Bool), as = [.play C p (encG g) (encN n) (encSt d.1) (d.2.map .bool), .dat (encG g), .dat (encN n), .dat (encDu d)] ∧ ShortG g ∧ OkN n ∧ (gatesM n).length = d.2.length ∧ R = RD (.bool true)
def manyM (x : NetW) : Nat := ((x.2.1 ++ x.2.2).map List.length).sum
def withinM (n : List NetW) : Bool := (n.all fun x => !decide (8 < manyM x)) && decide ((n.map manyM).sum ≤ 40)
def D_l_within : List SD → Res → Prop := fun as R => ∃ (n : List NetW), as = [.dat (encN n)] ∧ (∀ x ∈ n, x.2.1.length + x.2.2.length ≤ 10000) ∧ R = RD (.bool (withinM n))
section
variable {P : Program} {w : World} {K : PySem.W.Frag} {mg : Str → Option Value} {base : Heap} {C : Addr} {f : Nat → Addr} {fd : Nat → FuncData} {xc : Nat → Addr}
theorem ok_l_same (T : Top K mg C f fd xc) : FnOk P w K mg base CX0 5 (f 39) (fd 39) ["_law_play", "_law_graph_here", "_law_net", "_law_due"] (spG K (D_l_same C)) := by
  refine Fun.pure T.l_same.F sc_l_same (fun as R hD => ?_) (by decide) fun cdv A outer s H E hr => ⟨_, (pss_cons (ps_setLc (i := 4) (own := [("_law_g", 5)]) rfl sc_l_same.nd rfl rfl (sw_true rfl rfl rfl (by decide +kernel)) (pi_range1 rfl T.n_range (pa_cons (pe_callB call_len_seq (by rfl) T.n_len (by decide +kernel) (pa_cons (pe_ix ix_tup (pv 3) pe_int (fun _ _ => rfl)) pa_nil)) pa_nil)) (blkOk_by (own := [("_law_g", 5)]) (N := N_l_same) (sc := defScope s_l_same) (by decide +kernel)) (fun _ _ _ _ _ => (pg_name (i := 5) sc_l_same.nd rfl (Or.inl rfl))) (fun _ _ _ _ _ => pts_nil) (fun _ _ _ _ _ => (pe_meth (pv 0) T.cl T.P_level_m (ok_P_level T) (hr.mono (by decide)) T.P_level.b .nil pass0 (pa_cons (pv 5) pa_nil))))
  (pss_one (ps_ret (pe_and (pe_cmpR (op_eqD hr.units) (pe_meth0 (pv 0) T.cl T.P_stand_m (ok_P_stand T) (hr.mono (by decide)) T.P_stand.b .nil pass0) (pe_ix ix_tup (pv 3) pe_int (fun _ _ => rfl)) (nomark _)) (pe_and (pe_cmpR (op_eqD hr.units) (pe_callTy call_tuple_of (by rfl) T.n_tuple (by decide +kernel) (pa_cons (pv 4) pa_nil)) (pe_ix ix_tup (pv 3) pe_int (fun _ _ => rfl)) (nomark _)) (pe_one (pe_cmpR (op_eqD hr.units) (pe_meth0 (pv 0) T.cl T.P_moves_m (ok_P_moves T) (hr.mono (by decide)) T.P_moves.b .nil pass0) (pe_call (ok_l_moves T) (hr.mono (by decide)) (by rfl) T.l_moves.m T.l_moves.F.kp T.l_moves.b .nil pass0 (pa_cons (pv 1) (pa_cons (pv 2) (pa_cons (pv 3) pa_nil)))) (nomark _)))))))), fun as R hD He σ Q E k => ?_⟩
  · obtain ⟨p, g, n, d, rfl, _⟩ := hD
    rfl
  · obtain ⟨p, g, n, ⟨st, lv⟩, rfl, S, O, hl, rfl⟩ := hD
    have hl' : (gatesM n).length = lv.length := hl
    have O1 := O.gl
    have O2 : Ok2 g n := ⟨S.S, O.gl, O.nl⟩
    refine q_setL E (xl_lcAll (l := lv) .bool (xi_range (xd_len (xd_at (d := encLv lv) (xd_var (d := encDu (st, lv)) rfl) xd_int rfl) (List.length_map _)) (by omega)) rfl (by omega) trivial fun m x hx => ⟨_, _, gok_name, by decide, (xd_meth (D := D_P_level C) rfl (fun _ _ _ _ => pf_no (by decide +kernel) (by decide +kernel) (by decide +kernel) (by decide +kernel)) (xa_d (xd_var rfl) xa_nil) ⟨_, _, _, _, _, _, _, rfl, hx, rfl⟩)⟩) fun a σ H e E => ?_
    refine s_ret E (xd_is (xd_andV (a := true) (xd_is (xd_eqD (d := encSt st) (e := encSt st) (xd_meth (D := D_P_stand C) rfl (fun _ _ _ _ => pf_no (by decide +kernel) (by decide +kernel) (by decide +kernel) (by decide +kernel)) xa_nil ⟨_, _, _, _, _, rfl, rfl⟩) (xd_at (xd_var (d := encDu (st, lv)) rfl) xd_int rfl) (shpSt.ok (by decide)) (shpSt.ok (by decide))) (by rw [eqvSt, decide_eq_true rfl])) fun h => (xd_andV (a := true) (xd_is (xd_eqD (d := encLv lv) (e := encLv lv) (xd_tupOf (xr_lst rfl)) (xd_at (xd_var (d := encDu (st, lv)) rfl) xd_int rfl) (shpLv.ok (by decide)) (shpLv.ok (by decide))) (by rw [eqvLv, decide_eq_true rfl])) fun h => (xd_is (xd_eqL (xr_new (xl_meth (D := D_P_moves C) rfl (fun _ _ _ _ => pf_no (by decide +kernel) (by decide +kernel) (by decide +kernel) (by decide +kernel)) xa_nil ⟨_, _, _, _, _, rfl, O2, hl', rfl⟩)) (xr_new (xl_call (D := D_l_moves) (xa_d (xd_var rfl) (xa_d (xd_var rfl) (xa_d (xd_var rfl) xa_nil))) ⟨_, _, _, rfl, S, O, hl', rfl⟩)) (shMs _) (shMs _)) (by rw [eqvMs okMoves okMoves, decide_eq_true rfl])))) rfl) k
theorem ok_l_within (T : Top K mg C f fd xc) : FnOk P w K mg base CX0 1 (f 41) (fd 41) ["_law_net"] (spG K D_l_within) := by
  refine Fun.pure T.l_within.F sc_l_within (fun as R hD => ?_) (by decide) fun cdv A outer s H E hr => ⟨_, (pss_cons (ps_set (i := 1) sc_l_within.nd rfl (Or.inl rfl) pe_int)
  (pss_cons (ps_for PassesOwn.never rfl (pi_tup (pv 0)) (pg_tup rfl (pgs_cons (pg_name (i := 2) sc_l_within.nd rfl (Or.inl rfl)) (pgs_cons (pg_name (i := 3) sc_l_within.nd rfl (Or.inl rfl)) (pgs_cons (pg_name (i := 4) sc_l_within.nd rfl (Or.inl rfl)) pgs_nil))))
  (pss_cons (ps_set (i := 5) sc_l_within.nd rfl (Or.inl rfl) (pe_callB (cr_sum rfl) (by rfl) T.n_sum (by decide +kernel) (pa_cons (pe_lc (own := [("_law_gate", 6)]) (by rfl) sc_l_within.nd (pi_tup (pe_op op_catA (pv 3) (pv 4))) (blkOk_by (own := [("_law_gate", 6)]) (N := N_l_within) (sc := defScope s_l_within) (by decide +kernel)) (fun _ _ _ _ _ => (pg_name (i := 6) sc_l_within.nd rfl (Or.inl rfl))) (fun _ _ _ _ _ => pts_nil) (fun _ _ _ _ _ => (pe_callB (call_len_seqK K) (by rfl) T.n_len (by decide +kernel) (pa_cons (pv 6) pa_nil)))) pa_nil)))
  (pss_cons (ps_set (i := 1) sc_l_within.nd rfl (Or.inl rfl) (pe_op op_add (pv 1) (pv 5)))
  (pss_one (ps_if (pt_cmpR op_gt (pv 5) pe_int (nomark _)) (pss_one (ps_ret pe_bl)) pss_nil)))))
  (pss_one (ps_ret (pe_cmpR op_le (pv 1) pe_int (nomark _)))))), fun as R hD He σ Q E k => ?_⟩
  · obtain ⟨n, rfl, _⟩ := hD
    rfl
  · obtain ⟨n, rfl, hs, rfl⟩ := hD
    refine q_set E xd_int fun σ H e E => ?_
    refine q_for (S := Unit) (fun m s => ((n.take m).all fun x => !decide (8 < manyM x)) = true) (fun m s => [.dat (encN n), .dat (nat ((n.take m).map manyM).sum), .any, .any, .any, .any, .any]) () E (xi_encT (0, [], []) (xd_var rfl)) rfl (.refl _) (fun _ _ _ _ => trivial) (fun m hm => gok3) (fun G m s σ H hm is E => ?_) (fun s σ H is E => ?_)
    · have hx := at_getD ((0, [], []) : NetW) hm
      generalize n.getD m (0, [], []) = x at hx E
      have hb := hs x (List.mem_of_getElem? hx)
      refine q_set E (xd_sum (ns := (x.2.1 ++ x.2.2).map List.length) (xr_new (xl_is (xl_lcAll (l := x.2.1 ++ x.2.2) (fun g : Gate => nat g.length) (xi_encT (l := x.2.1 ++ x.2.2) (enc := encGt) [] (xd_is (xd_catT (ds := x.2.1.map encGt) (es := x.2.2.map encGt) (xd_var rfl) (xd_var rfl) (by
        rw [List.length_map, List.length_map]
        omega)) (by rw [List.map_append]))) rfl (by rw [List.length_append]; omega) trivial fun j y hy => ⟨_, _, gok_name, by decide, (by
        rw [getD_of _ hy]
        exact xd_len (ds := y.map encR) (xd_var rfl) (List.length_map _))⟩) (by rw [List.map_map] <;> rfl)))) fun σ H e E => ?_
      refine q_set E (xd_addN (xd_var rfl) (xd_var rfl)) fun σ H e E => ?_
      refine s_when E (xt_test (xd_gtN (xd_var rfl) xd_int)) (fun hb H e E => ?_) (fun hb H e E => ?_)
      · have hw : withinM n = false := by
          unfold withinM
          have : (n.all fun x => !decide (8 < manyM x)) = false := by
            refine List.all_eq_false.mpr ⟨x, List.mem_of_getElem? hx, ?_⟩
            rw [show decide (8 < manyM x) = true from hb]
            decide
          rw [this]
          rfl
        rw [hw] at k
        refine s_ret E xd_bl k
      · refine ⟨(), ?_, ?_⟩
        · rw [filt_take hx, List.all_append, is]
          show (true && (!decide (8 < manyM x) && true)) = true
          rw [show decide (8 < manyM x) = false from hb]
          rfl
        · have e1 : ((n.take (m + 1)).map manyM).sum = ((n.take m).map manyM).sum + manyM x := by
            rw [map_more manyM hx, List.sum_append]
            simp
          rw [e1]
          exact E.wk (.same (.same (.drop (.drop (.drop (.drop (.drop .nil)))))))
    · rw [List.take_length] at E is
      unfold withinM at k
      rw [is, Bool.true_and] at k
      refine s_ret E (xd_leN (xd_var rfl) xd_int) k
end

end Q3

namespace Q3
open PySem L2 Evl PyProof.Rows

/-! ## an own error caught, asked for its class -/
/-- one class asked of what the suite holds -/
def rIsW (K : PySem.W.Frag) (cls : Value) (d : Option Addr) (a : Addr) : List V → Hp → VK → Prop := fun xs H Q => ∃ (C0 : Addr) (c : V) (cv : Value) (b : Bool), cls = .ref C0 ∧ d = none ∧ ExcC K C0 ∧ xs = [.ref a, c] ∧ ClsV c cv ∧ PySem.W.kitOne K (.ref C0) cv = some b ∧ Q (.bl b) H
theorem call_isW {X : Cx} {a : Addr} {oe : Obj} {pn : List (Addr × Obj)} {cls : Value} {d : Option Addr} (hz : Zc cls d oe) (hf : ∃ vs, oe.data = .fields vs) : CallR (X.suite a ((a, oe) :: pn)) (.builtin "isinstance") (rIsW X.K cls d a) := by
  intro pins s σ H xs us Q I r h
  obtain ⟨C0, c, cv, b, rfl, rfl, C, rfl, hc, e, q⟩ := h
  exact call_isE C hz hf pins s σ H _ us Q I r ⟨c, cv, b, rfl, fun u ru => hc.eq ru, e, q⟩
/-- a tuple of classes, just laid -/
def rIsWT (K : PySem.W.Frag) (cls : Value) (d : Option Addr) (a : Addr) : List V → Hp → VK → Prop := fun xs H Q => ∃ (C0 tp : Addr) (cs : List V) (us : List Value) (b : Bool), cls = .ref C0 ∧ d = none ∧ ExcC K C0 ∧ xs = [.ref a, .ref tp] ∧ H tp = some (.tup cs) ∧ Paired ClsV cs us ∧ PySem.W.kitAny K (.ref C0) us = some b ∧ Q (.bl b) H
theorem call_isWT {X : Cx} {a : Addr} {oe : Obj} {pn : List (Addr × Obj)} {cls : Value} {d : Option Addr} (hz : Zc cls d oe) (hf : ∃ vs, oe.data = .fields vs) : CallR (X.suite a ((a, oe) :: pn)) (.builtin "isinstance") (rIsWT X.K cls d a) := by
  intro pins s σ H xs us Q I r h
  obtain ⟨C0, tp, cs, ws, b, rfl, rfl, C, rfl, hT, hc, e, q⟩ := h
  obtain ⟨u1, u2, rfl, r1, r2⟩ := vals2 r
  cases (show u1 = Value.ref a from r1)
  cases (show u2 = Value.ref tp from r2)
  obtain ⟨hget, _⟩ := I.pin (a, oe) (List.mem_append.mpr (.inl List.mem_cons_self))
  have J : PySem.W.InstAt s.heap a oe C0 none := by
    obtain ⟨oc, od, oda, osl⟩ := oe
    obtain ⟨vs, hv⟩ := hf
    obtain ⟨g1, g2⟩ := hz
    dsimp only at g1 g2 hv
    subst g1 g2 hv
    exact ⟨hget, rfl, rfl, trivial⟩
  obtain ⟨_, its, rv, o, h1, h2, n, h3⟩ := (show ObjOk _ _ H s.heap tp (.tup cs) from I.hok tp _ hT)
  have ei := ClsV.all hc rv
  subst ei
  obtain ⟨oc, od, dt, sl⟩ := o
  dsimp only at h2 h3
  subst h2 h3
  exact PySem.W.kia_tup (PySem.W.handS_kitx_exc C.hg C.hk C.hs C.hd C.ha C.hn C.ht C.hm) I.kIn J h1 e nofun fun tk => ⟨.bl b, H, I.kept (t' := tk) fun _ _ z => z, rfl, q⟩
/-- a method that may raise, told at the slots -/
def tMethW (C : Addr) (m : Str) (sp : Sp) (E : L2.St → XK) (ta : TE) (t : TA) : TE := fun σ H Q => ta σ H fun x H1 => ∃ a dx fs, x = .ref a ∧ H1 a = some (.ins C dx fs) ∧ fs.lookup m = none ∧ t σ H1 fun vs H2 => sp (x :: vs) H2 Q (E σ)
theorem pe_methW {X : Cx} {CX : CXT} {k : Nat} {C f : Addr} {fd : FuncData} {ps : List Str} {sp : Sp} {E : L2.St → XK} {m : Str} {o e : Expr} {es : List Expr} {ta : TE} {t : TA} {apos pos : Pos} {pl : Sem Bool} (he : PE X o ta) (c : Cls X.K C) (hm : Meth X.K C m f)
    (F : FnOk X.prog X.w X.K X.mg X.base CX k f fd ps sp) (hr : Room k X.A) (hb : Binds X.K fd ps []) (hx : ∀ σ, PassesAt CX X σ (E σ)) (ha : PA X (e :: es) t)
    (hst : starEach (e :: es) X.env = (false, eval e X.env) :: starEach es X.env := by rfl) (hpl : (backTo pos (starEach es X.env)).any (·.1) = false := by rfl)
    (ht : eval (.Call (.Attribute o m apos) (e :: es) [] pos) X.env = (do
      let ov ← eval o X.env
      standAt apos.atName
      let (f, first) ← holding [ov] (getMethod ov m pl)
      callWith pos f first (backTo pos (starEach (e :: es) X.env)) (backToKw pos (keywordEach [] X.env))) := by rfl) :
    PE X (.Call (.Attribute o m apos) (e :: es) [] pos) (tMethW C m sp E ta t) := by
  refine ⟨fun pins s σ H Q I h => ?_⟩
  refine PySem.W.methodCall_KW (pl := pl) (thn (he.run pins s σ H _ I h) fun u s1 ⟨x, H1, I1, rx, a, dx, fs, ex, ea, l, q⟩ => ?_) ht
  subst ex
  obtain rfl : u = Value.ref a := rx
  refine getmeth_ok I1 ea c hm l ?_
  refine PySem.W.callWith_K (first := [.ref a]) (h₀ := X.base) I.ok.mod.kin hm.kp (thn (ha.run pos pins s1 σ H1 _ I1 q) fun us s2 ⟨vs, H2, I2, r, q2⟩ => ⟨I2.kIn, ?_⟩) hst hpl
  exact run_fnS (us := .ref a :: us) (vs := .ref a :: vs) F hr hb (hx σ) I2 (.cons rfl r) q2
/-- a slot emptied -/
theorem Env.setNone {K : PySem.W.Frag} {He H : Hp} {σ : L2.St} {Γ : List SD} {G : List (V × SD)} {i : Nat} (E : Env K He H σ Γ G) : Env K He H (σ.set i none) (Γ.set i .any) G := by
  have z := E.wipe [i]
  exact z
/-- x is a bool constant -/
theorem xd_isB {K : PySem.W.Frag} {Γ : List SD} {ta tb : TE} {a b : Bool} (ha : Xd K ta Γ (.bool a)) (hb : Xd K tb Γ (.bool b)) : Xd K (tOp rIsB ta tb) Γ (.bool (decide (a = b))) := fun He H σ G E Q q =>
  ha He H σ G E _ fun v H2 e2 t2 => hb He H2 σ G (E.mono e2) _ fun w H3 e3 t3 => ⟨a, b, t2.bl_eq, t3.bl_eq, q _ H3 (e2.trans e3) (.bl _)⟩
theorem xl_listRg {K : PySem.W.Frag} {Γ : List SD} {ta tb : TE} {a b : Int} (ha : Xd K ta Γ (.int a)) (hb : Xd K tb Γ (.int b)) (ho : RgOk a b) : Xl K (tLstRg (tRg2 ta tb)) Γ ((List.range (b - a).toNat).map fun i => .int (a + (i : Nat))) := fun He H σ G E Q q =>
  ha He H σ G E _ fun v H2 e2 t2 => hb He H2 σ G (E.mono e2) _ fun w H3 e3 t3 => ⟨a, b, t2.int_eq, t3.int_eq, ho, fun l hl => by
    refine q l _ _ ((e2.trans e3).trans (Ex.new hl)) (fresh_back (e2.trans e3) hl) upd_same ?_
    generalize upd H3 l (.lst (rgV a b)) = H4
    unfold rgV
    generalize List.range (b - a).toNat = ns
    induction ns with
    | nil => exact .nil
    | cons x l ih => exact .cons (.int _) ih⟩
end Q3

namespace Q3
open PySem L2 Evl
/-! ## refused -/
def D_l_refused (C : Addr) : List SD → Res → Prop := fun as R => ∃ (p : Addr) (g : Gr) (n : List NetW) (st : St2) (lv : List Bool) (m : Mv), as = [.play C p (encG g) (encN n) (encSt st) (lv.map .bool), .dat (encM m)] ∧ Ok2 g n ∧ (gatesM n).length = lv.length ∧ SafeAt g st ∧ MvOk m ∧ m ∉ movesM g n (st, lv) ∧ R = RD (.bool true)
section
variable {P : Program} {w : World} {K : PySem.W.Frag} {mg : Str → Option Value} {base : Heap} {C : Addr} {f : Nat → Addr} {fd : Nat → FuncData} {xc : Nat → Addr}
theorem ok_l_refused (T : Top K mg C f fd xc) : FnOk P w K mg base CX0 6 (f 40) (fd 40) ["_law_play", "_law_move"] (spG K (D_l_refused C)) := by
  refine Fun.pure T.l_refused.F sc_l_refused (fun as R hD => ?_) (by decide) fun cdv A outer s H E hr => ⟨_, (pss_cons (ps_set (i := 2) sc_l_refused.nd rfl (Or.inl rfl) pe_non)
    (pss_cons (ps_try_as (i := 3) (Wout := fun _ _ _ _ => False) rfl rfl sc_l_refused.nd rfl rfl ⟨rfl, by decide, Or.inl T.g7⟩ takes0
      (fun W pn xe tk _ => pss_one (ps_expr (pe_methW (pv 0) T.cl T.P_go_m (ok_P_go T) (hr.mono (by decide)) T.P_go.b (fun σ => passAt tk σ) (pa_cons (pv 1) pa_nil))))
      (fun a oe cls d pn hz hf => pss_cons (ps_set (i := 2) sc_l_refused.nd rfl (Or.inl rfl) (pe_and (pe_callB (call_isW hz hf) (by rfl) T.n_isinstance (by decide +kernel) (pa_cons (pv 3) (pa_cons (pe_glob rfl T.g0 (v := .ref (xc 0)) rfl) pa_nil))) (pe_one (pe_callB (call_isW hz hf) (by rfl) T.n_isinstance (by decide +kernel) (pa_cons (pv 3) (pa_cons (pe_bltn rfl T.n_ValueError (v := .ty "ValueError") (u := .type "ValueError") (by decide +kernel) rfl) pa_nil))))))
        (pss_one (ps_if (pt_val (pe_callB (call_isWT hz hf) (by rfl) T.n_isinstance (by decide +kernel) (pa_cons (pv 3) (pa_cons (pe_tup (pa_cons (pe_glob rfl T.g2 (v := .ref (xc 2)) rfl) (pa_cons (pe_glob rfl T.g5 (v := .ref (xc 5)) rfl) (pa_cons (pe_glob rfl T.g6 (v := .ref (xc 6)) rfl) (pa_cons (pe_glob rfl T.g3 (v := .ref (xc 3)) rfl) (pa_cons (pe_glob rfl T.g8 (v := .ref (xc 8)) rfl) (pa_cons (pe_glob rfl T.g1 (v := .ref (xc 1)) rfl) (pa_cons (pe_glob rfl T.g4 (v := .ref (xc 4)) rfl) pa_nil)))))))) pa_nil)))) (pss_one (ps_set (i := 2) sc_l_refused.nd rfl (Or.inl rfl) pe_bl)) pss_nil))))
    (pss_one (ps_ret (pe_cmpR op_isBl (pv 2) pe_bl (nomark _)))))), fun as R hD He σ Q E k => ?_⟩
  · obtain ⟨p, g, n, st, lv, m, rfl, _⟩ := hD
    rfl
  · obtain ⟨p, g, n, st, lv, m, rfl, O, hl, hsf, hm, hno, rfl⟩ := hD
    refine q_set E xd_non fun σ H e E => ?_
    rcases E.at_ 0 _ rfl with z | ⟨v0, h0, rfl, hP⟩
    · cases z
    rcases E.at_ 1 _ rfl with z | ⟨v1, h1, t1⟩
    · cases z
    have hP := hP.ex E.ex
    obtain ⟨dx, a, xs, vg, vn, vh, hp⟩ := hP
    refine ⟨_, h0, p, dx, _, rfl, hp.1, pf_no (by decide +kernel) (by decide +kernel) (by decide +kernel) (by decide +kernel), _, h1, p, a, v1, g, n, st, lv, m, rfl, ⟨dx, xs, vg, vn, vh, hp⟩, t1, O, hl, hsf, hm, fun _ H2 e2 => ?_, fun z => absurd z hno⟩
    refine ⟨true, T.eN, fun _ b hb => ?_, fun z => nomatch z⟩
    have E3 := E.mono e2
    have E4 : Q3.Env K He H2 (σ.set 3 (some (.ref b))) _ [] := E3.setAny (i := 3) (v := .ref b)
    have l3 : 3 < σ.length := by
      rw [E3.len]
      show 3 < 4
      decide
    have s3 : (σ.set 3 (some (V.ref b)))[3]? = some (some (.ref b)) := List.getElem?_set_self l3
    refine ⟨_, s3, xc 7, _, _, true, rfl, rfl, T.cN, rfl, .own _, T.iC, true, rfl, ?_⟩
    rw [if_pos rfl]
    refine ⟨_, s3, xc 7, _, _, true, rfl, rfl, T.cN, rfl, .ty _, T.iV, ?_⟩
    have E5 : Q3.Env K He H2 ((σ.set 3 (some (.ref b))).set 2 (some (.bl true))) _ [] := E4.setD (i := 2) (v := .bl true) (.bl true)
    have s5 : ((σ.set 3 (some (V.ref b))).set 2 (some (.bl true)))[3]? = some (some (.ref b)) := by
      rw [List.getElem?_set_ne (by decide)]
      exact s3
    refine ⟨_, s5, by show 7 ≤ sizeLine; decide, fun tp htp => ⟨xc 7, tp, _, _, false, rfl, rfl, T.cN, rfl, upd_same, .cons (.own _) (.cons (.own _) (.cons (.own _) (.cons (.own _) (.cons (.own _) (.cons (.own _) (.cons (.own _) .nil)))))), T.iA, ?_⟩⟩
    refine ⟨false, rfl, ?_⟩
    have ex6 : Ex H2 (upd H2 tp (.tup [V.ref (xc 2), V.ref (xc 5), V.ref (xc 6), V.ref (xc 3), V.ref (xc 8), V.ref (xc 1), V.ref (xc 4)])) := Ex.new htp
    have E6 := (E5.mono ex6).setNone (i := 3)
    refine s_ret E6 (d := .bool true) (xd_is (xd_isB (a := true) (b := true) (xd_var rfl) xd_bl) rfl) k
end

end Q3

namespace Q3
open PySem L2 Evl
/-! ## others -/
def smallM : List Int := (List.range 28).map fun i : Nat => -2 + (i : Int)
def numsM (far : Nat) : List Int := smallM ++ [(far : Int), 0 - (far : Int)]
def poolM (gl far : Nat) : List Mv := (numsM far).map (fun i => (0, i)) ++ (numsM far ++ [(gl : Int), ((gl + 1 : Nat) : Int)]).map (fun i => (1, i)) ++ (numsM far).map fun i => (2, i)
def othersM (gl far : Nat) (ms : List Mv) : List Mv := (poolM gl far).filter fun x => !decide (x ∈ ms)
theorem poolOk {gl far : Nat} : ∀ x ∈ poolM gl far, MvOk x := fun x hx => by
  unfold poolM at hx
  rcases List.mem_append.mp hx with hx | hx
  · rcases List.mem_append.mp hx with hx | hx
    · obtain ⟨i, _, rfl⟩ := List.mem_map.mp hx
      show 0 ≤ 2
      decide
    · obtain ⟨i, _, rfl⟩ := List.mem_map.mp hx
      show 1 ≤ 2
      decide
  · obtain ⟨i, _, rfl⟩ := List.mem_map.mp hx
    show 2 ≤ 2
    decide
theorem numsL {far : Nat} : (numsM far).length = 30 := by
  unfold numsM smallM
  rw [List.length_append, List.length_map, List.length_range]
  rfl
theorem poolL {gl far : Nat} : (poolM gl far).length = 92 := by
  unfold poolM
  rw [List.length_append, List.length_append, List.length_map, List.length_map, List.length_map, List.length_append, numsL]
  rfl
theorem nonneg_moves {g : Gr} {n : List NetW} {d : St2 × List Bool} {m : Mv} (h : m ∈ movesM g n d) : 0 ≤ m.2 := by
  rcases moves_mem h with ⟨k, rfl, _⟩ | ⟨k, rfl, _⟩ | ⟨x, _, rfl⟩
  · exact Int.natCast_nonneg _
  · exact Int.natCast_nonneg _
  · exact Int.natCast_nonneg _
theorem others_some {g : Gr} {n : List NetW} {d : St2 × List Bool} {gl far : Nat} : 0 < (othersM gl far (movesM g n d)).length := by
  refine List.length_pos_of_mem (a := (0, -2)) (List.mem_filter.mpr ⟨?_, ?_⟩)
  · unfold poolM numsM
    refine List.mem_append.mpr (.inl (List.mem_append.mpr (.inl (List.mem_map.mpr ⟨-2, List.mem_append.mpr (.inl ?_), rfl⟩))))
    decide
  · rw [decide_eq_false fun z => absurd (nonneg_moves z) (by decide)]
    rfl
theorem others_not {gl far : Nat} {ms : List Mv} {m : Mv} (h : m ∈ othersM gl far ms) : m ∉ ms ∧ MvOk m := by
  obtain ⟨h1, h2⟩ := List.mem_filter.mp h
  refine ⟨fun z => ?_, poolOk m h1⟩
  rw [decide_eq_true z] at h2
  cases h2
def D_l_others : List SD → Res → Prop := fun as R => ∃ (g : Gr) (n : List NetW) (ms : List Mv) (far : Nat), as = [.dat (encG g), .dat (encN n), .rdl (ms.map encM), .dat (nat far)] ∧ (gatesM n).length ≤ 50000 ∧ (∀ x ∈ ms, MvOk x) ∧ R = RL ((othersM (gatesM n).length far ms).map encM)
section
variable {P : Program} {w : World} {K : PySem.W.Frag} {mg : Str → Option Value} {base : Heap} {C : Addr} {f : Nat → Addr} {fd : Nat → FuncData} {xc : Nat → Addr}
theorem ok_l_others (T : Top K mg C f fd xc) : FnOk P w K mg base CX0 2 (f 42) (fd 42) ["_law_graph_here", "_law_net", "_law_moves_here", "_law_far"] (spG K D_l_others) := by
  refine Fun.pure T.l_others.F sc_l_others (fun as R hD => ?_) (by decide) fun cdv A outer s H E hr => ⟨_, (pss_cons (ps_set (i := 4) sc_l_others.nd rfl (Or.inl rfl) (pe_callB call_len_seq (by rfl) T.n_len (by decide +kernel) (pa_cons (pe_call (ok_l_gates T) (hr.mono (by decide)) (by rfl) T.l_gates.m T.l_gates.F.kp T.l_gates.b .nil pass0 (pa_cons (pv 1) pa_nil)) pa_nil)))
  (pss_cons (ps_set (i := 5) sc_l_others.nd rfl (Or.inl rfl) (pe_op op_cat (pe_listRg rfl (by rfl) T.n_list (prg_2 rfl T.n_range (pe_un un_neg pe_int) pe_int)) (pe_lst (pa_cons (pv 3) (pa_cons (pe_op op_sub pe_int (pv 3)) pa_nil)))))
  (pss_cons (ps_set (i := 6) sc_l_others.nd rfl (Or.inl rfl) (pe_op op_cat (pe_lc (own := [("_law_step", 8)]) (by rfl) sc_l_others.nd (pi_list (pv 5)) (blkOk_by (own := [("_law_step", 8)]) (N := N_l_others) (sc := defScope s_l_others) (by decide +kernel)) (fun _ _ _ _ _ => (pg_name (i := 8) sc_l_others.nd rfl (Or.inl rfl))) (fun _ _ _ _ _ => pts_nil) (fun _ _ _ _ _ => (pe_tup (pa_cons pe_str (pa_cons (pv 8) pa_nil))))) (pe_lc (own := [("_law_g", 9)]) (by rfl) sc_l_others.nd (pi_list (pe_op op_cat (pv 5) (pe_lst (pa_cons (pv 4) (pa_cons (pe_op op_add (pv 4) pe_int) pa_nil))))) (blkOk_by (own := [("_law_g", 9)]) (N := N_l_others) (sc := defScope s_l_others) (by decide +kernel)) (fun _ _ _ _ _ => (pg_name (i := 9) sc_l_others.nd rfl (Or.inl rfl))) (fun _ _ _ _ _ => pts_nil) (fun _ _ _ _ _ => (pe_tup (pa_cons pe_str (pa_cons (pv 9) pa_nil)))))))
  (pss_cons (ps_set (i := 6) sc_l_others.nd rfl (Or.inl rfl) (pe_op op_cat (pv 6) (pe_lc (own := [("_law_wire", 10)]) (by rfl) sc_l_others.nd (pi_list (pv 5)) (blkOk_by (own := [("_law_wire", 10)]) (N := N_l_others) (sc := defScope s_l_others) (by decide +kernel)) (fun _ _ _ _ _ => (pg_name (i := 10) sc_l_others.nd rfl (Or.inl rfl))) (fun _ _ _ _ _ => pts_nil) (fun _ _ _ _ _ => (pe_tup (pa_cons pe_str (pa_cons (pv 10) pa_nil)))))))
  (pss_one (ps_ret (pe_lc (own := [("_law_move", 7)]) (by rfl) sc_l_others.nd (pi_list (pv 6)) (blkOk_by (own := [("_law_move", 7)]) (N := N_l_others) (sc := defScope s_l_others) (by decide +kernel)) (fun _ _ _ _ _ => (pg_name (i := 7) sc_l_others.nd rfl (Or.inl rfl))) (fun _ _ _ _ _ => (pts_one (pt_cmpR (op_notInDK K (hu65 hr)) (pv 7) (pv 2) (by rfl)))) (fun _ _ _ _ _ => (pv 7))))))))), fun as R hD He σ Q E k => ?_⟩
  · obtain ⟨g, n, ms, far, rfl, _⟩ := hD
    rfl
  · obtain ⟨g, n, ms, far, rfl, gl, hms, rfl⟩ := hD
    refine q_set E (xd_lenL (xr_new (xl_call (D := D_l_gates) (xa_d (xd_var rfl) xa_nil) ⟨_, rfl, gl, rfl⟩)) (List.length_map _)) fun σ H e E => ?_
    refine q_setL E (ds := (numsM far).map .int) (xl_is (xl_cat (xl_listRg (a := -2) (b := 26) (xd_un xd_int) xd_int ⟨by decide, by decide, by decide, by decide, by decide⟩) (xl_lst (xs_cons (xd_var rfl) (xs_cons (xd_II xd_int (xd_var rfl)) xs_nil)) lenk) (by
      rw [List.length_map, List.length_range]
      show 28 + 2 ≤ 100000
      decide)) (by
      unfold numsM smallM
      rw [List.map_append, List.map_map]
      rfl)) fun a σ H e E => ?_
    refine q_setL E (ds := ((numsM far).map (fun i => ((0, i) : Mv)) ++ (numsM far ++ [((gatesM n).length : Int), (((gatesM n).length + 1 : Nat) : Int)]).map fun i => ((1, i) : Mv)).map encM) (xl_is (xl_cat (xl_lcAll (l := numsM far) (fun i => encM (0, i)) (xi_encO 0 rfl) rfl (by rw [numsL]; decide) rfl fun m x hx => ⟨_, _, gok_name, by decide, (by
      rw [getD_of _ hx]
      exact xd_tup (xs_cons xd_str (xs_cons (xd_var rfl) xs_nil)) lenk)⟩) (xl_lcAll (l := numsM far ++ [((gatesM n).length : Int), (((gatesM n).length + 1 : Nat) : Int)]) (fun i => encM (1, i)) (xi_encN (l := numsM far ++ [((gatesM n).length : Int), (((gatesM n).length + 1 : Nat) : Int)]) (enc := .int) 0 (xl_is (xl_catV (ds := (numsM far).map .int) (es := [nat (gatesM n).length, nat ((gatesM n).length + 1)]) rfl (xl_lst (xs_cons (xd_var rfl) (xs_cons (xd_addN (xd_var rfl) xd_int) xs_nil)) lenk) (by
      rw [List.length_map, numsL]
      show 30 + 2 ≤ 100000
      decide)) (by
      rw [List.map_append]
      rfl))) rfl (by
      rw [List.length_append, numsL]
      show 30 + 2 ≤ 100000
      decide) trivial fun m x hx => ⟨_, _, gok_name, by decide, (by
      rw [getD_of _ hx]
      exact xd_tup (xs_cons xd_str (xs_cons (xd_var rfl) xs_nil)) lenk)⟩) (by
      rw [List.length_map, List.length_map, List.length_append, numsL]
      show 30 + (30 + 2) ≤ 100000
      decide)) (by
      simp only [List.map_append, List.map_map]
      rfl)) fun b σ H e E => ?_
    refine q_setL E (ds := (poolM (gatesM n).length far).map encM) (xl_is (xl_catV (es := ((numsM far).map fun i => ((2, i) : Mv)).map encM) rfl (xl_is (xl_lcAll (l := numsM far) (fun i => encM (2, i)) (xi_encO 0 rfl) rfl (by rw [numsL]; decide) rfl fun m x hx => ⟨_, _, gok_name, by decide, (by
      rw [getD_of _ hx]
      exact xd_tup (xs_cons xd_str (xs_cons (xd_var rfl) xs_nil)) lenk)⟩) (by
      rw [List.map_map]
      rfl)) (by
      simp only [List.length_map, List.length_append, numsL, List.length_cons, List.length_nil]
      decide)) (by
      unfold poolM
      rw [← List.map_append])) fun c σ H e E => ?_
    refine s_retL E (xl_lc (l := poolM (gatesM n).length far) (fun x => !decide (x ∈ ms)) encM (xi_encO (0, 0) rfl) rfl (by rw [poolL]; decide) rfl fun m x hx => ⟨_, _, gok_name, by decide, (by
      rw [getD_of _ hx]
      have hxo : MvOk x := poolOk x (List.mem_of_getElem? hx)
      exact xt_test (xd_is (xd_niD (d := encM x) (xd_var rfl) (xr_rdl rfl) (shM x) (shMs _)) (by rw [anyM hxo hms]))), fun hb => (by
      rw [getD_of _ hx]
      exact xd_var rfl)⟩) k
end

end Q3

namespace Q3
open PySem L2 Evl
/-! ## moved: the law's hand on a play -/
def encTold : Told → PyData
  | .non => .none
  | .astray w => .tuple [.str "astray", .int w]
  | .vanished l => .tuple [.str "vanished", .list (l.map encM)]
/-- what is told, as it lies at last -/
def TolX (H : Hp) (v : V) : Told → Prop
  | .non => v = .non
  | .astray w => Tp H v (.tuple [.str "astray", .int w])
  | .vanished l => ∃ b c xs, v = .ref b ∧ H b = some (.tup [.str "vanished", .ref c]) ∧ H c = some (.lst xs) ∧ TpAll H xs (l.map encM)
theorem ToldAt.x {H H' : Hp} {v : V} {t : Told} (h : ToldAt H H' v t) : TolX H' v t := by
  cases t with
  | non => exact h
  | astray w => exact h
  | vanished l =>
    obtain ⟨b, c, xs, h1, h2, h3, h4, _, _⟩ := h
    exact ⟨b, c, xs, h1, h2, h3, h4⟩
theorem ToldAt.but {H H1 H2 : Hp} {v : V} {t : Told} {p a : Addr} (h : ToldAt H H1 v t) (te : TEx H1 H2) (b2 : But p a H1 H2) (hp : H p ≠ none) (ha : H a ≠ none) : TolX H2 v t := by
  cases t with
  | non => exact h
  | astray w => exact Tp.mono te _ _ h
  | vanished l =>
    obtain ⟨b, c, xs, h1, h2, h3, h4, h5, h6⟩ := h
    exact ⟨b, c, xs, h1, te _ _ h2, b2 _ _ h3 (fun e => hp (e ▸ h6)) (fun e => ha (e ▸ h6)), h4.mono te⟩
theorem TolX.dp {K : PySem.W.Frag} {H : Hp} {v : V} {t : Told} (h : TolX H v t) : Dp K H v (encTold t) := by
  cases t with
  | non =>
    cases (show v = .non from h)
    exact .non
  | astray w => exact Tp.dp _ _ h
  | vanished l =>
    obtain ⟨b, c, xs, rfl, h2, h3, h4⟩ := h
    exact .tup (st_of h2) (.cons (.str _) (.cons (.lst (sq_of h3) (TpAll.dp _ _ h4)) .nil))
theorem shpTold (t : Told) : Shp (encTold t) 3 := by
  cases t with
  | non => exact shp_none
  | astray w =>
    refine shp_tup fun d hd => ?_
    simp only [List.mem_cons, List.not_mem_nil, or_false] at hd
    rcases hd with rfl | rfl
    · exact shp_str (by decide +kernel)
    · exact shp_int
  | vanished l =>
    refine shp_tup fun d hd => ?_
    simp only [List.mem_cons, List.not_mem_nil, or_false] at hd
    rcases hd with rfl | rfl
    · exact shp_str (by decide +kernel)
    · exact shp_list (shp_map fun m => shpM m)
theorem eqvAll_same {α : Type} {f : α → PyData} (h : ∀ a, PyData.eqv (f a) (f a) = true) : ∀ l : List α, PyData.eqvAll (l.map f) (l.map f) = true
  | [] => by simp [PyData.eqvAll]
  | a :: l => by
    simp only [List.map_cons, PyData.eqvAll, h a, eqvAll_same h l, Bool.and_true]
theorem eqvM_same (m : Mv) : PyData.eqv (encM m) (encM m) = true := by
  show PyData.eqv (.tuple [.str (wd m.1), .int m.2]) (.tuple [.str (wd m.1), .int m.2]) = true
  simp [PyData.eqv, PyData.eqvAll]
theorem eqvTold (t : Told) : PyData.eqv (encTold t) (encTold t) = true := by
  cases t with
  | non => simp [encTold, PyData.eqv]
  | astray w => simp [encTold, PyData.eqv, PyData.eqvAll]
  | vanished l =>
    have h := eqvAll_same eqvM_same l
    simp [encTold, PyData.eqv, PyData.eqvAll, h]
/-- a play as the law's due state says -/
structure OkPl (g : Gr) (n : List NetW) (d : St2 × List Bool) : Prop where
  S : ShortG g
  O : OkN n
  hl : (gatesM n).length = d.2.length
  sf : SafeAt g d.1
def spP_moved (C : Addr) : Sp := fun vs H Q _ => ∃ (p a : Addr) (vg vn vd : V) (c : Nat) (g : Gr) (n : List NetW) (d : St2 × List Bool), vs = [.ref p, vg, vn, vd, .int (c : Int)] ∧ PlayX C H p a (encG g) (encN n) (encSt d.1) (d.2.map .bool) ∧ Tp H vg (encG g) ∧ Tp H vn (encN n) ∧ Tp H vd (encDu d) ∧ OkPl g n d ∧
  ∀ v H' d', But p a H H' → TEx H H' → PlayX C H' p a (encG g) (encN n) (encSt d'.1) (d'.2.map .bool) → Tp H' v (encDu d') → (d' = d ∨ ∃ m ∈ movesM g n d, d' = (goM g n d m).1) → Q v H'
/-- a test's answer, no heap moved -/
def An (t : TT) (σ : L2.St) (H : Hp) (b : Bool) : Prop := ∀ Q : Bool → Hp → Prop, Q b H → t σ H Q
theorem an_or0 {t u : TT} {σ : L2.St} {H : Hp} {b : Bool} (h1 : An t σ H false) (h2 : An u σ H b) : An (tOr t u) σ H b := fun Q q => h1 _ (h2 Q q)
theorem an_and0 {t u : TT} {σ : L2.St} {H : Hp} (h1 : An t σ H false) : An (tAnd t u) σ H false := fun Q q => h1 _ q
theorem an_and1 {t u : TT} {σ : L2.St} {H : Hp} {b : Bool} (h1 : An t σ H true) (h2 : An u σ H b) : An (tAnd t u) σ H b := fun Q q => h1 _ (h2 Q q)
theorem an_not {t : TT} {σ : L2.St} {H : Hp} {b : Bool} (h1 : An t σ H b) : An (tNot t) σ H (!b) := fun Q q => h1 _ q
theorem an_skip {t : TT} {u : TS} {D : Ends} {σ : L2.St} {H : Hp} {tz : TS} (h1 : An t σ H false) (k : tz D σ H) : tSeq (tIfS t u tNext) tz D σ H := h1 _ k
theorem an_notN {σ : L2.St} {H : Hp} {i : Nat} {v : V} {b : Bool} (h : σ[i]? = some (some v)) (e : (!decide (v = V.non)) = b) : An (tTest (tOp (fun x y H Q => y = V.non ∧ Q (V.bl !decide (x = V.non)) H) (tVar i) (tC V.non))) σ H b := fun Q q => ⟨v, h, rfl, b, by rw [e], q⟩
theorem an_isi {K : PySem.W.Frag} {te : TE} {σ : L2.St} {H : Hp} {v : V} {T : String} (h : ∀ Q : VK, Q v H → te σ H Q) (ty : TyOf K H v (.type T)) : An (tB (tCB (rIsi K) (tCons te (tCons (tC (V.ty T)) tNil)))) σ H true := fun Q q =>
  h _ ⟨v, .ty T, .type T, .type T, true, rfl, .ty T, .base ty, if_pos (beq_self_eq_true _), true, rfl, q⟩
theorem moved_tail {K : PySem.W.Frag} {σ : L2.St} {H : Hp} {D : Ends} {x y v : V} {t : Told} (s8 : σ[8]? = some (some x)) (s9 : σ[9]? = some (some y)) (s10 : σ[10]? = some (some v)) (ty : TolX H y t) (tv : TolX H v t) (fin : D.rt x H) :
    tSeq (tIfS (tOr (tTest (tOp (rNeD K) (tVar 10) (tVar 9))) (tAnd (tTest (tOp (fun x y H Q => y = V.non ∧ Q (V.bl !decide (x = V.non)) H) (tVar 9) (tC V.non))) (tNot (tB (tCB (rIsi K) (tCons (tVar 10) (tCons (tC (V.ty "tuple")) tNil))))))) (tRet (tC V.non)) tNext)
      (tSeq (tIfS (tAnd (tTest (tOp (fun x y H Q => y = V.non ∧ Q (V.bl !decide (x = V.non)) H) (tVar 9) (tC V.non))) (tAnd (tTest (tOp rEq (tOp (rIxT K) (tVar 9) (tC (V.int 0))) (tC (V.str "vanished")))) (tNot (tB (tCB (rIsi K) (tCons (tOp (rIxT K) (tVar 10) (tC (V.int 1))) (tCons (tC (V.ty "list")) tNil))))))) (tRet (tC V.non)) tNext)
        (tRet (tVar 8))) D σ H := by
  have one : An (tTest (tOp (rNeD K) (tVar 10) (tVar 9))) σ H false := fun Q q => ⟨_, s10, _, s9, encTold t, encTold t, tv.dp, ty.dp, (shpTold t).ok (by decide), (shpTold t).ok (by decide), false, by rw [eqvTold] <;> rfl, q⟩
  have last : tRet (tVar 8) D σ H := ⟨x, s8, fin⟩
  cases t with
  | non =>
    cases (show y = .non from ty)
    exact an_skip (an_or0 one (an_and0 (an_notN s9 rfl))) (an_skip (an_and0 (an_notN s9 rfl)) last)
  | astray n =>
    obtain ⟨b, ys, rfl, hb, hs⟩ := Tp.tup_eq ty
    obtain ⟨c, zs, rfl, hc, ht⟩ := Tp.tup_eq tv
    refine an_skip (an_or0 one (an_and1 (an_notN s9 (b := true) (by simp)) (an_not (b := true) (an_isi (v := .ref c) (fun Q q => ⟨_, s10, q⟩) (.tup hc))))) (an_skip (an_and1 (an_notN s9 (b := true) (by simp)) (an_and0 fun Q q => ?_)) last)
    cases hs with
    | cons h1 h2 =>
      rw [h1.str_eq] at hb
      cases h2 with
      | cons _ h3 =>
      cases h3
      exact ⟨_, s9, b, _, 0, .str "astray", rfl, rfl, st_of hb, rfl, rfl, false, congrArg V.bl (decide_eq_false fun e => absurd (V.str.inj e) (by decide +kernel)), q⟩
  | vanished l =>
    obtain ⟨b, c, xs, rfl, h2, h3, h4⟩ := ty
    obtain ⟨b', c', xs', rfl, g2, g3, g4⟩ := tv
    exact an_skip (an_or0 one (an_and1 (an_notN s9 (b := true) (by simp)) (an_not (b := true) (an_isi (v := .ref b') (fun Q q => ⟨_, s10, q⟩) (.tup g2))))) (an_skip (an_and1 (an_notN s9 (b := true) (by simp)) (an_and1 (fun Q q => ⟨_, s9, b, _, 0, .str "vanished", rfl, rfl, st_of h2, rfl, rfl, true, congrArg V.bl (decide_eq_true rfl), q⟩) (an_not (b := true) (an_isi (v := .ref c') (fun Q q => ⟨_, s10, b', _, 1, .ref c', rfl, rfl, st_of g2, rfl, q⟩) (.lst g3))))) last)
theorem q_to {K : PySem.W.Frag} {He H : Hp} {σ : L2.St} {Γ : List SD} {G : List (V × SD)} {D : Ends} {ta : TA} {as : List SD} {sp : Sp} {E' : XK} {g : TG} {tz : TS} (h : Xa K ta Γ as) (E : Q3.Env K He H σ Γ G)
    (k : ∀ vs H2, Ex H H2 → AAll K H2 vs as → sp (vs ++ []) H2 (fun v H3 => g v σ H3 fun σ' H' => tz D σ' H') E') : tSeq (tAsg (tCall sp [] E' ta) g) tz D σ H := h He H σ G E _ k
section
variable {P : Program} {w : World} {K : PySem.W.Frag} {mg : Str → Option Value} {base : Heap} {C : Addr} {f : Nat → Addr} {fd : Nat → FuncData} {xc : Nat → Addr}
set_option maxHeartbeats 8000000 in
theorem ok_l_moved (T : Top K mg C f fd xc) : FnOk P w K mg base CX0 7 (f 43) (fd 43) ["_law_play", "_law_graph_here", "_law_net", "_law_due", "_law_cell"] (spP_moved C) := by
  refine T.l_moved.F.ok sc_l_moved (fun vs H Q E h => ?_) (fun cdv A outer s H vs Q E hr h => ⟨_, (pss_cons (ps_set (i := 5) sc_l_moved.nd rfl (Or.inl rfl) (pe_call (ok_l_moves T) (hr.mono (by decide)) (by rfl) T.l_moves.m T.l_moves.F.kp T.l_moves.b .nil pass0 (pa_cons (pv 1) (pa_cons (pv 2) (pa_cons (pv 3) pa_nil)))))
  (pss_cut (ps_if (pt_cmpR op_eq (pe_op op_mod (pv 4) pe_int) pe_int (nomark _)) (pss_cons (ps_set (i := 6) sc_l_moved.nd rfl (Or.inl rfl) (pe_call (ok_l_others T) (hr.mono (by decide)) (by rfl) T.l_others.m T.l_others.F.kp T.l_others.b .nil pass0 (pa_cons (pv 1) (pa_cons (pv 2) (pa_cons (pv 5) (pa_cons (pe_op op_add pe_int (pe_op op_fdiv (pv 4) pe_int)) pa_nil))))))
  (pss_one (ps_if (PW.pt (pw_or (pt_not (pt_val (pe_call (ok_l_refused T) (hr.mono (by decide)) (by rfl) T.l_refused.m T.l_refused.F.kp T.l_refused.b .nil pass0 (pa_cons (pv 0) (pa_cons (pe_ix ix_list (pv 6) (pe_op op_mod (pe_op op_fdiv (pv 4) pe_int) (pe_callB call_len_seq (by rfl) T.n_len (by decide +kernel) (pa_cons (pv 6) pa_nil))) (fun _ _ => rfl)) pa_nil))))) (pw_or1 (pt_not (pt_val (pe_call (ok_l_same T) (hr.mono (by decide)) (by rfl) T.l_same.m T.l_same.F.kp T.l_same.b .nil pass0 (pa_cons (pv 0) (pa_cons (pv 1) (pa_cons (pv 2) (pa_cons (pv 3) pa_nil)))))))))) (pss_one (ps_ret pe_non)) pss_nil))) pss_nil)
  (pss_cons (ps_if (pt_cmpR (op_eqD hr.units) (pv 5) (pe_lst pa_nil) (nomark _)) (pss_one (ps_ret (pv 3))) pss_nil)
  (pss_cons (ps_set (i := 7) sc_l_moved.nd rfl (Or.inl rfl) (pe_ix ix_list (pv 5) (pe_op op_mod (pe_op op_fdiv (pv 4) pe_int) (pe_callB call_len_seq (by rfl) T.n_len (by decide +kernel) (pa_cons (pv 5) pa_nil))) (fun _ _ => rfl)))
  (pss_cons (ps_asg (pe_call (ok_l_gone T) (hr.mono (by decide)) (by rfl) T.l_gone.m T.l_gone.F.kp T.l_gone.b .nil pass0 (pa_cons (pv 1) (pa_cons (pv 2) (pa_cons (pv 3) (pa_cons (pv 7) pa_nil))))) (pg_lst rfl (pgs_cons (pg_name (i := 8) sc_l_moved.nd rfl (Or.inl rfl)) (pgs_cons (pg_name (i := 9) sc_l_moved.nd rfl (Or.inl rfl)) pgs_nil))))
  (pss_cons (ps_set (i := 10) sc_l_moved.nd rfl (Or.inl rfl) (pe_meth (E := fun _ _ _ => False) (pv 0) T.cl T.P_go_m (ok_P_go T) (hr.mono (by decide)) T.P_go.b .nil (passes_call takes0 fun _ _ _ _ z => z) (pa_cons (pv 7) pa_nil)))
  (pss_cons (ps_if (PW.pt (pw_or (pt_cmpR (op_neD hr.units) (pv 10) (pv 9) (nomark _)) (pw_or1 (PW.pt (pw_and (pt_cmpR op_notN (pv 9) pe_non (nomark _)) (pw_and1 (pt_not (pt_val (pe_callB call_isi (by rfl) T.n_isinstance (by decide +kernel) (pa_cons (pv 10) (pa_cons (pe_bltn rfl T.n_tuple (v := .ty "tuple") (u := .type "tuple") (by decide +kernel) rfl) pa_nil))))))))))) (pss_one (ps_ret pe_non)) pss_nil)
  (pss_cons (ps_if (PW.pt (pw_and (pt_cmpR op_notN (pv 9) pe_non (nomark _)) (pw_and (pt_cmpR op_eq (pe_ix ix_tup (pv 9) pe_int (fun _ _ => rfl)) pe_str (nomark _)) (pw_and1 (pt_not (pt_val (pe_callB call_isi (by rfl) T.n_isinstance (by decide +kernel) (pa_cons (pe_ix ix_tup (pv 10) pe_int (fun _ _ => rfl)) (pa_cons (pe_bltn rfl T.n_list (v := .ty "list") (u := .type "list") (by decide +kernel) rfl) pa_nil))))))))) (pss_one (ps_ret pe_non)) pss_nil)
  (pss_one (ps_ret (pv 8))))))))))), ?_⟩)
  · obtain ⟨p, a, vg, vn, vd, c, g, n, d, rfl, _⟩ := h
    rfl
  · obtain ⟨p, a, vg, vn, vd, c, g, n, ⟨st, lv⟩, rfl, hX, tg, tn, td, ⟨S, O, hl, sf⟩, k⟩ := h
    have hl' : (gatesM n).length = lv.length := hl
    have sf' : SafeAt g st := sf
    have O2 : Ok2 g n := ⟨S.S, O.gl, O.nl⟩
    have E0 : Q3.Env K H H (L2.start N_l_moved [.ref p, vg, vn, vd, .int (c : Int)]) [.play C p (encG g) (encN n) (encSt st) (lv.map .bool), .dat (encG g), .dat (encN n), .dat (encDu (st, lv)), .dat (nat c), .any, .any, .any, .any, .any, .any] [] :=
      env_start (as := [.play C p (encG g) (encN n) (encSt st) (lv.map .bool), .dat (encG g), .dat (encN n), .dat (encDu (st, lv)), .dat (nat c)]) (.cons ⟨rfl, hX.at_⟩ (.cons tg (.cons tn (.cons td (.cons (.int _) .nil))))) lenk2
    refine q_setL E0 (xl_call (D := D_l_moves) (xa_d (xd_var rfl) (xa_d (xd_var rfl) (xa_d (xd_var rfl) xa_nil))) ⟨_, _, _, rfl, S, O, hl, rfl⟩) fun a5 σ H1 e1 E1 => ?_
    refine q_cut (S := Unit) E1 (fun _ => True) (fun _ => [.play C p (encG g) (encN n) (encSt st) (lv.map .bool), .dat (encG g), .dat (encN n), .dat (encDu (st, lv)), .dat (nat c), .lst a5 ((movesM g n (st, lv)).map encM), .any, .any, .any, .any, .any]) ?_ ?_
    · refine s_when E1 (xt_test (xd_eqN (xd_modN (xd_var rfl) xd_int (by decide)) xd_int)) (fun hb H e E => ?_) (fun hb H e E => ?_)
      · refine q_setL E (xl_call (D := D_l_others) (xa_d (xd_var rfl) (xa_d (xd_var rfl) (xa_r (xr_lst rfl) (xa_d (xd_addN xd_int (xd_divN (xd_var rfl) xd_int (by decide))) xa_nil)))) ⟨_, _, _, _, rfl, O.gl, okMoves, rfl⟩) fun ao σ H e E => ?_
        generalize hos : othersM (gatesM n).length (26 + c / 1000) (movesM g n (st, lv)) = os at E
        have lo : 0 < os.length := by rw [← hos]; exact others_some
        have hm := at_getD ((0, 0) : Mv) (Nat.mod_lt (c / 3) lo)
        generalize os.getD (c / 3 % os.length) (0, 0) = m at hm
        obtain ⟨no, mo⟩ := others_not (by rw [hos]; exact List.mem_of_getElem? hm)
        refine s_when E (b := false) (xt_or (a := false) (b := false) (xt_not (a := true) (xt_B (b := true) (xd_call (D := D_l_refused C) (xa_p rfl (xa_d (d := encM m) (xd_atL (xr_lst rfl) (xd_modN (xd_divN (xd_var rfl) xd_int (by decide)) (xd_lenL (xr_lst rfl) (List.length_map _)) lo) (getmap hm)) xa_nil)) ⟨_, _, _, _, _, _, rfl, O2, hl', sf', mo, no, rfl⟩))) fun h => (xt_not (a := true) (xt_B (b := true) (xd_call (D := D_l_same C) (xa_p rfl (xa_d (xd_var rfl) (xa_d (xd_var rfl) (xa_d (xd_var rfl) xa_nil)))) ⟨_, _, _, _, rfl, S, O, hl, rfl⟩)))) (fun hb => nomatch hb) (fun hb H e E => ⟨(), trivial, E.wk (.same (.same (.same (.same (.same (.same (.drop (.drop (.drop (.drop (.drop .nil)))))))))))⟩)
      · exact ⟨(), trivial, E⟩
    · rintro _ σ2 H2 _ E2
      refine q_when (b := decide (movesM g n (st, lv) = [])) E2 (xt_test (xd_is (xd_eqL (xr_lst rfl) (xr_new (xl_lst xs_nil lenk)) (shMs _) (shMs [])) (by
        have z := eqvMs (l := movesM g n (st, lv)) (l' := []) okMoves (fun x hx => nomatch hx)
        rw [List.map_nil] at z
        rw [z]))) (fun hb H3 e3 E3 => ?_) (fun hb H3 e3 E3 => ?_)
      · exact s_ret E3 (xd_var rfl) fun v H' e t => k v H' (st, lv) (But.of e) (te_of e) (hX.ex e) t (.inl rfl)
      · have lo : 0 < (movesM g n (st, lv)).length := by
          cases z : movesM g n (st, lv) with
          | nil =>
            rw [z] at hb
            cases hb
          | cons x l => exact Nat.succ_pos _
        have hm := at_getD ((0, 0) : Mv) (Nat.mod_lt (c / 200) lo)
        refine q_set E3 (d := encM ((movesM g n (st, lv)).getD (c / 200 % (movesM g n (st, lv)).length) (0, 0))) (xd_atL (xr_lst rfl) (xd_modN (xd_divN (xd_var rfl) xd_int (by decide)) (xd_lenL (xr_lst rfl) (List.length_map _)) lo) (getmap hm)) fun σ4 H4 e4 E4 => ?_
        generalize (movesM g n (st, lv)).getD (c / 200 % (movesM g n (st, lv)).length) (0, 0) = m at hm E4
        have hmm : m ∈ movesM g n (st, lv) := List.mem_of_getElem? hm
        have mo : MvOk m := okMoves m hmm
        have kk := k
        refine q_to (as := [.dat (encG g), .dat (encN n), .dat (encDu (st, lv)), .dat (encM m)]) (xa_d (xd_var rfl) (xa_d (xd_var rfl) (xa_d (xd_var rfl) (xa_d (xd_var rfl) xa_nil)))) E4 fun vs H5 e5 t5 => ⟨_, _, by rw [List.append_nil]; exact t5, ⟨g, n, (st, lv), m, rfl, S, O, hl, sf, hmm, rfl⟩, fun v5 H6 e6 ⟨l, x, y, ev, n1, h6, tx, ty⟩ => ?_⟩
        subst ev
        have E6 := E4.mono (e5.trans e6)
        refine ⟨l, [x, y], rfl, sq_of h6, rfl, x, [y], rfl, y, [], rfl, rfl, ?_⟩
        have hX6 := hX.ex (E6.ex)
        obtain ⟨dx, xs, ug, un, uh, q1, q2, q3, q4, q5, q6⟩ := id hX6
        have hX5 := hX.ex ((E4.mono e5).ex)
        obtain ⟨dx5, xs5, _, _, _, r1, _, _, _, r5, _⟩ := id hX5
        have len4 : σ4.length = 11 := by
          rw [E6.len]
          rfl
        have s0 : σ4[0]? = some (some (.ref p)) := by
          rcases E6.at_ 0 _ rfl with z | ⟨v, h1, h2, _⟩
          · cases z
          · rw [h1, h2]
        obtain ⟨vm, s7, tm⟩ : ∃ vm, σ4[7]? = some (some vm) ∧ Tp H6 vm (encM m) := by
          rcases E6.at_ 7 _ rfl with z | ⟨v, h1, h2⟩
          · cases z
          · exact ⟨v, h1, h2⟩
        have s0' : ((σ4.set 8 (some x)).set 9 (some y))[0]? = some (some (.ref p)) := by
          rw [List.getElem?_set_ne (by decide), List.getElem?_set_ne (by decide)]
          exact s0
        have s7' : ((σ4.set 8 (some x)).set 9 (some y))[7]? = some (some vm) := by
          rw [List.getElem?_set_ne (by decide), List.getElem?_set_ne (by decide)]
          exact s7
        refine ⟨_, s0', p, dx, _, rfl, q1, pf_no (by decide +kernel) (by decide +kernel) (by decide +kernel) (by decide +kernel), vm, s7', p, a, vm, g, n, st, lv, m, rfl, hX6, tm, O2, hl', sf', mo, fun z => absurd hmm z, fun _ v H7 b7 X7 t7 te7 => ?_⟩
        have ty7 : TolX H7 y (goM g n (st, lv) m).2 := ty.but te7 b7 (by rw [r1]; exact nofun) (by rw [r5]; exact nofun)
        have tv7 : TolX H7 v (goM g n (st, lv) m).2 := t7.x
        have tx7 : Tp H7 x (encDu (goM g n (st, lv) m).1) := tx.mono te7
        have s8 : (((σ4.set 8 (some x)).set 9 (some y)).set 10 (some v))[8]? = some (some x) := by
          rw [List.getElem?_set_ne (by decide), List.getElem?_set_ne (by decide)]
          exact List.getElem?_set_self (by rw [len4]; decide)
        have s9 : (((σ4.set 8 (some x)).set 9 (some y)).set 10 (some v))[9]? = some (some y) := by
          rw [List.getElem?_set_ne (by decide)]
          exact List.getElem?_set_self (by rw [List.length_set, len4]; decide)
        have s10 : (((σ4.set 8 (some x)).set 9 (some y)).set 10 (some v))[10]? = some (some v) := List.getElem?_set_self (by rw [List.length_set, List.length_set, len4]; decide)
        have fin : Q x H7 := kk x H7 (goM g n (st, lv) m).1 (fun b o hb n1 n2 => b7 b o (E6.ex b o hb) n1 n2) ((te_of E6.ex).trans te7) X7 tx7 (.inr ⟨m, hmm, rfl⟩)
        generalize (goM g n (st, lv) m).2 = t at ty7 tv7
        exact moved_tail s8 s9 s10 ty7 tv7 fin
end

end Q3

namespace Q3
open PySem L2 Evl PyProof.Rows

/-! ## enumerate of a tuple -/
/-- enumerate(v) with no start, v told by how its iterator begins -/
theorem one_enum_new {v : Value} {o : Obj} {S : Heap → Prop} (B : Begins v o S) :
    Meets (Builtin.«enumerate.__new__» ⟨[.type "enumerate", v], []⟩) (fun _ R s => S s.heap ∧
      R (.ok (.ret (.ref (s.heap.push o).objs.size))) { s with heap := (s.heap.push o).push { cls := .type "enumerate", data := .fields #[.none, .bool false, .ref s.heap.objs.size, rawInt 0, .none, .none] } }) :=
  .of_wp fun prog w A R s z => by
    obtain ⟨hp, g, d, tk, os⟩ := s
    obtain ⟨hs, z⟩ := z
    have ss := sub_enumerate
    have begun : ∀ {A2 : Around} {E2 : Value → Shared → Prop} {Q2 : Value → Shared → Prop}, Q2 (.ref hp.objs.size) ⟨hp.push o, g, d, tk, os⟩ → wpAny (model prog w) A2 (pyIter v) Q2 E2 ⟨hp, g, d, tk, os⟩ := fun k => B.iter prog w _ _ ⟨hp, g, d, tk, os⟩ _ hs k
    wp_walk using begun
    refine wpAny_stack_any fun st => wpAny_pure ?_
    split
    · rename_i c _ _ _ _ _
      cases (c == Value.type "enumerate") <;>
      · wp_walk using begun
        exact ⟨_, rfl, z⟩
    · wp_walk using begun
      exact ⟨_, rfl, z⟩
theorem one_enum {prog : Program} {w : World} {A : Around} {E : Value → Shared → Prop} {s : Shared} {v : Value} {o : Obj} {S : Heap → Prop} {Q : Value → Shared → Prop} (B : Begins v o S) (hs : S s.heap)
    (k : ∀ h2, IsEnum h2 (s.heap.objs.size + 1) s.heap.objs.size 0 .none → h2.get? s.heap.objs.size = some o → (∀ b u, s.heap.get? b = some u → h2.get? b = some u) → Q (.ref (s.heap.objs.size + 1)) { s with heap := h2 }) :
    wpAny (model prog w) A (call (.type "enumerate") [v]) Q E s := by
  have z1 : (s.heap.push o).objs.size = s.heap.objs.size + 1 := by rw [Heap.size_push]
  refine callType_new F.called_enumerate (by decide) (F.typeCall_enumerate_1 _) (F.newCall_enumerate_1 _) (fun obj => F.args_object_init_2 obj _) F.entry_enumerate_new (one_enum_new B) ⟨hs, ?_⟩
  have g1 : IsEnum ((s.heap.push o).push { cls := .type "enumerate", data := .fields #[.none, .bool false, .ref s.heap.objs.size, rawInt 0, .none, .none] }) (s.heap.objs.size + 1) s.heap.objs.size 0 .none := by
    rw [← z1]
    exact Heap.get?_push_size _ rfl
  show _ ∧ _
  rw [z1]
  exact ⟨⟨_, g1, rfl⟩, k _ g1 (Heap.get?_push_of_some _ (Heap.get?_push_size _ B.free)) fun b u e => Heap.get?_push_of_some _ (Heap.get?_push_of_some _ e)⟩
/-- a tuple's items, each beside its number, in new pairs -/
def ItN (K : PySem.W.Frag) (a : Addr) : It where
  go := fun m H => ∃ us : List V, SqT K H a us ∧ m < us.length
  yld := fun m H r H2 => ∃ (T : Addr) (q : V), r = .ref T ∧ H T = none ∧ H2 = upd H T (.tup [.int (m : Nat), q]) ∧ ∀ us, SqT K H a us → us[m]? = some q
  stop := fun m H => ∃ us : List V, SqT K H a us ∧ m = us.length
theorem turn_enumTu {P : Program} {w : World} {K : PySem.W.Frag} {elts : List Expr} {kk : Nat} {tpos : Pos} {a e it : Addr} (h1 : e ≠ it) (h2 : a ≠ it) (h3 : a ≠ e) :
    Turn P w K (.Tuple elts kk tpos) (ItN K a) [e, it] e (fun m h => (∃ old, IsEnum h e it ((m : Nat) : Int) old) ∧ h.IsTupleIter it a m) := by
  have nf : e ∉ [it, a] := by simp [h1, Ne.symm h3]
  refine ⟨by simp, fun m h st c hc => ?_, fun m h h' st k => ?_, ?_, ?_, fun A m s Q E st h => ?_⟩
  · obtain ⟨⟨old, he⟩, ⟨o, g1, _, g2⟩⟩ := st
    simp only [List.mem_cons, List.not_mem_nil, or_false] at hc
    rcases hc with rfl | rfl
    · exact ⟨_, he, nofun⟩
    · exact ⟨o, g1, fun v r => by
        rw [g2] at r
        cases r⟩
  · obtain ⟨⟨old, he⟩, j⟩ := st
    exact ⟨⟨old, k e (by simp) _ he⟩, j.at fun o r => k it (by simp) o r⟩
  · intro X hP hw hK hc m pins s σ H E I hf ⟨⟨old, he⟩, j⟩ ⟨us, hus, lu⟩
    subst hP hw hK
    obtain ⟨its, rv, p1, _⟩ := I.tuple hus
    have l1 := rv.length
    have hx : us[m]? = some us[m] := List.getElem?_eq_getElem lu
    obtain ⟨u, hu, ru⟩ := rv.get hx
    have hel : e < s.heap.objs.size := Heap.lt_size he
    have hil : it < s.heap.objs.size := by
      obtain ⟨_, g1, _⟩ := j
      exact Heap.lt_size g1
    have hd := I.ok.hd hc
    refine wpAny_pyNext_enum_itemC (Draws.tuple (prog := X.prog) (w := X.w) (A := X.A.in1) hd it a h2 its.toArray) he ⟨j, p1⟩ (by simp; omega) h1 nf fun x h' tk q1 ho st hT hsz hk => ?_
    have ex : x = u := by
      simp only [List.getElem?_toArray] at q1
      rw [hu] at q1
      cases q1
      rfl
    subst ex
    refine ⟨_, rfl, wpAny_letOwnedTupleGo_enum (s := { s with heap := h', toks := tk + 1 }) ho fun h5 he5 sb => ?_⟩
    have hT5 : h5.get? s.heap.objs.size = some { cls := .type "tuple", data := .seq #[.int m tk, x] } := (sb.2 _ (Nat.ne_of_gt hel)).trans hT
    have new : ObjOk X.prog X.w (upd H s.heap.objs.size (.tup [.int (m : Nat), us[m]])) h5 s.heap.objs.size (.tup [.int (m : Nat), us[m]]) :=
      ⟨by show 2 ≤ sizeLine; decide, [.int m tk, x], .cons ⟨_, rfl⟩ (.cons ru .nil), ⟨_, hT5, rfl, _, rfl⟩⟩
    have I1 : Inv X pins σ (upd H s.heap.objs.size (.tup [.int (m : Nat), us[m]])) { s with heap := h5, toks := tk + 1 } := I.turnedNew (t' := tk + 1) (ch := [e, it]) (fun c o hb r => by
      simp only [List.mem_cons, List.not_mem_nil, or_false, not_or] at hb
      exact (sb.2 c hb.1).trans (hk c o hb.1 hb.2 r)) hf (Nat.le_refl _) new
    refine ⟨.ref s.heap.objs.size, _, I1, rfl, ⟨_, _, rfl, I.hok.fresh (Nat.le_refl _), rfl, fun l hl => by rw [I.tuple_inj hl hus]; exact hx⟩, ⟨⟨x, by rw [Int.natCast_add]; exact he5⟩, st.1.at fun o r => (sb.2 _ (Ne.symm h1)).trans r⟩, fun c hcm => ?_⟩
    have hlt : c < s.heap.objs.size := by
      have hcm' := hcm
      simp only [List.mem_cons, List.not_mem_nil, or_false] at hcm'
      rcases hcm' with rfl | rfl
      · exact hel
      · exact hil
    rw [upd_ne (Nat.ne_of_lt hlt)]
    exact (hf c hcm).1
  · intro X hP hw hK hc m pins s σ H E I hf ⟨⟨old, he⟩, j⟩ ⟨us, hus, lu⟩
    subst hP hw hK
    obtain ⟨its, rv, p1, _⟩ := I.tuple hus
    have l1 := rv.length
    have hd := I.ok.hd hc
    have em : m = its.toArray.size := by simp; omega
    refine wpAny_pyNext_enum_endD (Draws.tuple (prog := X.prog) (w := X.w) (A := X.A.in1) hd it a h2 its.toArray) he (by rw [← em]; exact ⟨j, p1⟩) fun h' hk => ⟨rfl, I.turnedL (t' := s.toks) (ch := [e, it]) (fun c o hb r => ?_) hf⟩
    simp only [List.mem_cons, List.not_mem_nil, or_false, not_or] at hb
    exact hk c o hb.2 r
  · obtain ⟨⟨_, he⟩, _⟩ := st
    exact wpAny_pyIter_enum he h
def iEnumT (K : PySem.W.Frag) (ta : TA) : TI := fun σ H R => ta σ H fun rs H2 => ∃ (a : Addr) (us : List V), rs = [.ref a] ∧ SqT K H2 a us ∧ R (ItN K a) H2
theorem pi_enumT {X : Cx} {e : Expr} {ta : TA} {p pos tpos : Pos} {elts : List Expr} {kk : Nat} (hg : Gl X "enumerate") (hm : X.mg "enumerate" = none) (ha : PA X [e] ta) (hs : starEach [e] X.env = [(false, eval e X.env)] := by rfl) :
    PI X (.Tuple elts kk tpos) (.Call (.Name "enumerate" p) [e] [] pos) (iEnumT X.K ta) := by
  refine ⟨fun pins s σ H R I h => ?_⟩
  refine Call_ (ld_blt I hg hm PyProof.Rows.boot_enumerate (PyProof.Rows.callWith_type1 (thn (ha.run pos pins s σ H _ I h) fun rs s1 ⟨vs, H1, I1, r1, q1⟩ => ?_) hs rfl))
  obtain ⟨a, us, rfl, hqa, q⟩ := q1
  cases r1 with
  | cons r rr =>
    cases rr
    cases r
    obtain ⟨its, rv, p1, _⟩ := I1.tuple hqa
    obtain ⟨o, ho, _⟩ := id p1
    have hal : a < s1.heap.objs.size := Heap.lt_size ho
    refine one_enum (begins_tuple a its.toArray) p1 fun h' he g1 hk => wpAny_pyIter_enum he ?_
    have I2 : Inv X pins σ H1 { s1 with heap := h' } := I1.kept (t' := s1.toks) hk
    refine ⟨s1.heap.objs.size + 1, [s1.heap.objs.size + 1, s1.heap.objs.size], _, _, H1, rfl, I2, turn_enumTu (Nat.succ_ne_self _) (Nat.ne_of_lt hal) (Nat.ne_of_lt (Nat.lt_succ_of_lt hal)), ⟨⟨.none, he⟩, ⟨_, g1, rfl, rfl⟩⟩, fun c hcm => ?_, q⟩
    have hle : s1.heap.objs.size ≤ c := by
      simp only [List.mem_cons, List.not_mem_nil, or_false] at hcm
      rcases hcm with e | e
      · rw [e]
        exact Nat.le_add_right _ _
      · rw [e]
        exact Nat.le_refl _
    exact I1.fpOk hle (I1.hok.fresh hle)
/-! ## sorted of a tuple -/
def rSortT (K : PySem.W.Frag) : List V → Hp → VK → Prop := fun vs H Q => ∃ (a : Addr) (ns : List Int), vs = [.ref a] ∧ SqT K H a (ns.map V.int) ∧ ns.length < 64 ∧ ∀ (ms : List Int) (p : Addr), ms.Perm ns → ms.Pairwise (· ≤ ·) → H p = none → Q (.ref p) (upd H p (.lst (ms.map V.int)))
theorem cr_sortedTu {X : Cx} : CallR X (.builtin "sorted") (rSortT X.K) := by
  intro pins s σ H vs us Q I r z
  obtain ⟨a, ns, rfl, hq, hl, z⟩ := z
  obtain ⟨its, rv, p1, _⟩ := I.tuple hq
  rw [Vals.ref1 r]
  have hi := rv.ints
  have hil : its.length = ns.length := hi.length
  obtain ⟨o, ho, hc, n, hd⟩ := id p1
  refine Calls.call_function_entry PyProof.Rows.kind_sorted PyProof.Rows.plain_sorted PyProof.Rows.entry_sorted (PyProof.Rows.args_sorted1 _) ?_
  unfold Builtin.«sorted»
  refine wpAny_bind (m := checkCount "sorted" 1 1 _) (wpAny_pure ?_)
  refine wpAny_bind (wpAny_collect_seq a (T := "tuple") (.inr rfl) ho hc hd (fun h2 hk => ?_) (by rw [List.size_toArray, sizeLine_eq]; omega))
  rw [List.toList_toArray]
  have I1 : Inv X pins σ H { s with heap := h2 } := I.kept (t' := s.toks) hk
  refine wpAny_bind (wpAny_newList ?_ (by rw [sizeLine_eq]; omega))
  have g1 : (h2.push (seqObj "list" its.toArray 0)).get? h2.objs.size = some (seqObj "list" its.toArray 0) := Heap.get?_push_size _ rfl
  show wpAny _ _ _ _ _ { s with heap := h2.push (seqObj "list" its.toArray 0) }
  refine wpAny_bind (wpAny_holding (wpAny_call_entry PyProof.Rows.slot_list_sort ⟨_, g1, rfl⟩ PyProof.Rows.entry_list_sort
    (PyProof.Rows.list_sort_tree (s := { s with heap := h2.push (seqObj "list" its.toArray 0) }) g1 hi (by rw [hil]; exact hl) fun out ms b1 b2 b3 => ⟨_, rfl, ?_⟩) (PyProof.Rows.args_list_sort _)))
  obtain ⟨ep, g2⟩ := PyProof.Rows.sortedHeap_at (vs := its) (out := out) g1
  have hlen : (ms.map V.int).length ≤ sizeLine := by
    rw [List.length_map, b2.length_eq, sizeLine_eq]
    omega
  refine wpAny_pure ⟨_, rfl, .ref h2.objs.size, upd H h2.objs.size (.lst (ms.map V.int)), I1.laid (t' := s.toks) (fun b u e => ?_) (Nat.le_refl _) (show ObjOk X.prog X.w _ _ _ (.lst (ms.map V.int)) from ⟨hlen, out.toList, ep, vals_of_ints b1, g2⟩), rfl, z ms _ b2 b3 (I1.hok.fresh (Nat.le_refl _))⟩
  have hb : b < h2.objs.size := Heap.lt_size e
  rw [PyProof.Rows.sortedHeap_old (Nat.ne_of_lt hb) (by rw [Heap.size_push]; exact Nat.lt_succ_of_lt hb)]
  exact Heap.get?_push_of_some _ e
section
variable {K : PySem.W.Frag} {Γ : List SD} {ds es : List PyData} {ta tb tl te : TE} {He H : Hp} {σ : L2.St} {G : List (V × SD)} {D : Ends} {tz : TS}
theorem xi_enumT {f : Nat → PyData} (h : Xd K tl Γ (.tuple ds)) (hf : ∀ m d, ds[m]? = some d → f m = .tuple [.int (m : Int), d]) : Xi K (iEnumT K (tCons tl tNil)) Γ KpT ds.length f := fun He H σ G E R k => by
  refine h He H σ G E _ fun w H2 ex tw => ?_
  obtain ⟨b, ws, rfl, hb, hs⟩ := tw.tup_eq
  refine ⟨b, ws, rfl, st_of hb, k _ H2 [(.ref b, .dat (.tuple ds))] ex ((E.mono ex).ghostD tw) fun H' σ' Γ' E' kp => ?_⟩
  have t' : Tp H' (.ref b) (.tuple ds) := E'.gh _ List.mem_cons_self
  obtain ⟨b', ys, eb, hb', hs'⟩ := t'.tup_eq
  cases eb
  have l2 := hs'.length
  refine ⟨fun m hm => ⟨⟨ys, st_of hb', by omega⟩, fun x H'' y => ?_⟩, ⟨ys, st_of hb', by omega⟩⟩
  obtain ⟨T, q, rfl, hT, rfl, q1⟩ := y
  obtain ⟨d, hd, td⟩ := hs'.at_ (q1 _ (st_of hb'))
  rw [hf m d hd]
  exact ⟨Ex.new hT, .tup upd_same (.cons (.int _) (.cons (td.ex (Ex.new hT)) .nil))⟩
theorem xi_enumET {α : Type} {l : List α} {enc : α → PyData} (d : α) (h : Xd K tl Γ (.tuple (l.map enc))) : Xi K (iEnumT K (tCons tl tNil)) Γ KpT l.length (fun m => .tuple [nat m, enc (l.getD m d)]) := by
  have z := xi_enumT (K := K) (f := fun m => .tuple [nat m, enc (l.getD m d)]) h fun m y hy => by rw [map_getD (e := fun _ => enc) d m y hy]
  rw [List.length_map] at z
  exact z

/-! ## texts -/
theorem str_app (a b : Str) : (a ++ b).length = a.length + b.length := by
  show (a.cps ++ b.cps).size = a.cps.size + b.cps.size
  rw [Array.size_append]
theorem xd_addS {a b : Str} (ha : Xd K ta Γ (.str a)) (hb : Xd K tb Γ (.str b)) (h : a.length + b.length ≤ 100000) : Xd K (tOp (fun x y H Q => ∃ i j, x = .str i ∧ y = .str j ∧ i.length + j.length ≤ sizeLine ∧ Q (.str (i ++ j)) H) ta tb) Γ (.str (a ++ b)) := fun He H σ G E Q q =>
  ha He H σ G E _ fun v H2 e2 t2 => hb He H2 σ G (E.mono e2) _ fun w H3 e3 t3 => ⟨a, b, t2.str_eq, t3.str_eq, sz_of h, q _ H3 (e2.trans e3) (.str _)⟩
theorem xd_atS {a : Str} {n c : Nat} (ha : Xd K ta Γ (.str a)) (hb : Xd K tb Γ (nat n)) (hl : a.length ≤ 100000) (h : a.cps.toList[n]? = some c) : Xd K (tOp rIxS ta tb) Γ (.str ⟨#[c]⟩) := fun He H σ G E Q q =>
  ha He H σ G E _ fun v H2 e2 t2 => hb He H2 σ G (E.mono e2) _ fun w H3 e3 t3 => ⟨a, (n : Int), c, t2.str_eq, t3.int_eq, sz_of hl, atI_nat h, q _ H3 (e2.trans e3) (.str _)⟩
theorem xd_slS {tl th : TO} {lo hi : Option Int} {a : Str} (ha : Xd K te Γ (.str a)) (h1 : Xo K tl Γ lo) (h2 : Xo K th Γ hi) (hl : a.length ≤ 100000) : Xd K (tSl rSlS te tl th) Γ (.str (cutS a lo hi)) := fun He H σ G E Q q =>
  ha He H σ G E _ fun v H2 e2 t2 => h1 He H2 σ G (E.mono e2) _ fun H3 e3 => h2 He H3 σ G (E.mono (e2.trans e3)) _ fun H4 e4 => ⟨a, t2.str_eq, sz_of hl, q _ H4 ((e2.trans e3).trans e4) (.str _)⟩

/-! ## lists: insert, index, sorted -/
def rIns : V → List V → Hp → VK → Prop := fun x vs H Q => ∃ (l : Addr) (xs : List V) (i : Int) (y : V), x = .ref l ∧ vs = [.int i, y] ∧ H l = some (.lst xs) ∧ xs.length < sizeLine ∧ 0 ≤ i ∧ i < 2 ^ 63 ∧ Q .non (upd H l (.lst (xs.take i.toNat ++ [y] ++ xs.drop i.toNat)))
theorem mt_ins {X : Cx} : MtR X "list.insert" rIns := mt_insert
theorem s_ins {i n : Nat} {a : Addr} {d : PyData} (E : Env K He H σ Γ G) (hi : Γ[i]? = some (.lst a ds)) (hn : Xd K ta Γ (nat n)) (hx : Xd K te Γ d) (hz : ds.length < 100000) (hb : n ≤ 100000) (k : ∀ H', Env K He H' σ (Γ.set i (.lst a (ds.take n ++ [d] ++ ds.drop n))) G → D.nx σ H') :
    tDrop (tBM K "list" rIns (tVar i) (tCons ta (tCons te tNil))) D σ H := by
  rcases E.at_ i _ hi with z | ⟨v, hv, e, h1, xs, h2, h3⟩
  · cases z
  · subst e
    refine ⟨_, hv, .inl ⟨rfl, xs, sq_of h2⟩, hn He H σ G E _ fun w1 H1 e1 t1 => hx He H1 σ G (E.mono e1) _ fun w H2 e2 t2 => ⟨a, xs, (n : Int), w, rfl, by rw [t1.int_eq], (e1.trans e2) _ _ h2, sz_lt (by rw [h3.length]; exact hz), Int.natCast_nonneg _, by omega, ?_⟩⟩
    rw [Int.toNat_natCast]
    refine k _ ((E.mono (e1.trans e2)).upd hi rfl (.inl rfl) fun u hu => .inr ?_)
    obtain ⟨e3, h4, ys, h5, h6⟩ := hu
    have e5 : ys = xs := by
      have z := h5.symm.trans ((e1.trans e2) _ _ h2)
      cases z
      rfl
    subst e5
    exact ⟨e3, h4, _, upd_same, TpAll.mono (te_upd h5 rfl) _ _ (((h6.take n).append (.one t2)).append (h6.drop n))⟩
theorem q_ins {i n : Nat} {a : Addr} {d : PyData} (E : Env K He H σ Γ G) (hi : Γ[i]? = some (.lst a ds)) (hn : Xd K ta Γ (nat n)) (hx : Xd K te Γ d) (hz : ds.length < 100000) (hb : n ≤ 100000) (k : ∀ H', Env K He H' σ (Γ.set i (.lst a (ds.take n ++ [d] ++ ds.drop n))) G → tz D σ H') :
    tSeq (tDrop (tBM K "list" rIns (tVar i) (tCons ta (tCons te tNil)))) tz D σ H := s_ins (D := { D with nx := tz D }) E hi hn hx hz hb k
theorem nats_ints {ns : List Nat} : ns.map nat = (ns.map Int.ofNat).map PyData.int := by
  rw [List.map_map] <;> rfl
theorem idx_le {x : Nat} : ∀ {ns : List Nat} {m : Nat}, ns[m]? = some x → ns.idxOf x ≤ m
  | [], m, h => by simp at h
  | y :: l, 0, h => by
    have e : y = x := Option.some.inj h
    subst e
    simp
  | y :: l, m + 1, h => by
    have z := idx_le (ns := l) (m := m) h
    rw [List.idxOf_cons]
    by_cases e : (y == x) = true
    · simp [e]
    · simp only [e, cond_false]
      simp only [Bool.not_eq_true] at e
      simp [e]
      exact z
theorem xd_idx {x : Nat} {ns : List Nat} (ha : Xr K ta Γ (ns.map nat)) (hb : Xd K te Γ (nat x)) (hx : x ∈ ns) : Xd K (tBM K "list" (rIndex K) ta (tCons te tNil)) Γ (nat (ns.idxOf x)) := fun He H σ G E Q q =>
  ha He H σ G E _ fun a xs H2 e2 l2 t2 => ⟨.inl ⟨rfl, xs, l2⟩, hb He H2 σ G (E.mono e2) _ fun w H3 e3 t3 => by
    rw [nats_ints] at t2
    have exs := ints_of_tpAll t2
    subst exs
    have hlt := List.idxOf_lt_length_iff.mpr hx
    have hat : ∀ (m n : Nat), ns[m]? = some n → ((ns.map Int.ofNat).map V.int)[m]? = some (.int (n : Int)) := fun m n h => by
      rw [List.getElem?_map, List.getElem?_map, h]
      rfl
    refine ⟨a, _, .int (x : Int), ns.idxOf x, .int (x : Int), rfl, by rw [t3.int_eq], ex_l e3 l2, rfl, flat_ints, hat _ _ (by rw [List.getElem?_eq_getElem hlt, List.getElem_idxOf]), beq_self_eq_true _, fun m z hm hz => ?_, q _ H3 (e2.trans e3) (.int _)⟩
    have hml : m < ns.length := Nat.lt_trans hm hlt
    rw [hat m _ (List.getElem?_eq_getElem hml)] at hz
    cases hz
    have ne : ns[m] ≠ x := fun e => by
      have z := idx_le (ns := ns) (m := m) (x := x) (by rw [List.getElem?_eq_getElem hml, e])
      omega
    exact beq_eq_false_iff_ne.mpr fun z => ne (by omega)⟩
end
end Q3

namespace Q3
open PySem L2 Evl
/-! ## drawing: mix, word, order, arrows -/
def mixI (is : List Int) (k : Nat) : Int := if k < is.length then is.getD k 0 * 6364136223846793005 else 0
def mixM (is : List Int) (k : Nat) : Nat := ((((7919 * k + 12345 : Nat) : Int) + mixI is k) * 48271 % 1000000000039).toNat
def D_l_mix : List SD → Res → Prop := fun as R => ∃ (is : List Int) (k : Nat), as = [.rdl (is.map .int), .dat (nat k)] ∧ R = RD (nat (mixM is k))
def letters : Str := "abcdefghijklmnopqrstuvwxyz"
def ltr (n : Nat) : Str := ⟨#[letters.cps.toList.getD n 0]⟩
def wordL (cell k at_ m : Nat) : Str := (List.range m).foldl (fun s j => s ++ ltr ((cell / 49 + 5 * j + 7 * (if j = at_ then k else 0)) % 26)) ""
def kinds : List Str := ["given", "made", "up", "down", "start"]
def wordM (cell k : Nat) : Str := if wordL cell k (cell / 7 % (2 + cell % 7)) (2 + cell % 7) ∈ kinds then cutS (wordL cell k (cell / 7 % (2 + cell % 7)) (2 + cell % 7)) (some 1) none ++ "q" else wordL cell k (cell / 7 % (2 + cell % 7)) (2 + cell % 7)
theorem wordL_succ (cell k a m : Nat) : wordL cell k a (m + 1) = wordL cell k a m ++ ltr ((cell / 49 + 5 * m + 7 * (if m = a then k else 0)) % 26) := by
  unfold wordL
  rw [List.range_succ, List.foldl_append]
  rfl
theorem wordL_len (cell k a : Nat) : ∀ m, (wordL cell k a m).length = m
  | 0 => by
    show (Str.ofString "").length = 0
    decide +kernel
  | m + 1 => by
    rw [wordL_succ, str_app, wordL_len cell k a m]
    rfl
def D_l_word : List SD → Res → Prop := fun as R => ∃ (cell k : Nat), as = [.dat (nat cell), .dat (nat k)] ∧ k < 1000 ∧ R = RD (.str (wordM cell k))
def insM (l : List Nat) (n x : Nat) : List Nat := l.take n ++ [x] ++ l.drop n
def ordStep (c w : Nat) (l : List Nat) : List Nat :=
  insM (insM l (c % (l.length + 1)) w) (c % (l.length + 1) + 1 + c / 64 % ((insM l (c % (l.length + 1)) w).length - c % (l.length + 1))) w
def orderM (is : List Int) (first : Nat) : Nat → List Nat
  | 0 => []
  | w + 1 => ordStep (mixM is (first + w)) w (orderM is first w)
def D_l_order : List SD → Res → Prop := fun as R => ∃ (is : List Int) (first n : Nat), as = [.rdl (is.map .int), .dat (nat first), .dat (nat n)] ∧ n ≤ 1000 ∧ R = RL ((orderM is first n).map nat)
theorem ins_len {l : List Nat} {n x : Nat} : (insM l n x).length = l.length + 1 := by
  unfold insM
  rw [List.length_append, List.length_append, List.length_take, List.length_drop, List.length_singleton]
  omega
theorem order_len (is : List Int) (first : Nat) : ∀ n, (orderM is first n).length = 2 * n
  | 0 => rfl
  | n + 1 => by
    show (ordStep _ _ _).length = _
    unfold ordStep
    rw [ins_len, ins_len, order_len is first n]
    omega
abbrev PrI := Nat × Nat
def encP (p : PrI) : PyData := .tuple [nat p.1, nat p.2]
def arrStep (c size : Nat) (l : List PrI) : List PrI :=
  if c % size ≠ c / 64 % size ∧ (min (c % size) (c / 64 % size), max (c % size) (c / 64 % size)) ∉ l then l ++ [(min (c % size) (c / 64 % size), max (c % size) (c / 64 % size))] else l
def arrowsM (is : List Int) (first size : Nat) : Nat → List PrI
  | 0 => []
  | k + 1 => arrStep (mixM is (first + k)) size (arrowsM is first size k)
def D_l_arrows : List SD → Res → Prop := fun as R => ∃ (is : List Int) (first many size : Nat), as = [.rdl (is.map .int), .dat (nat first), .dat (nat many), .dat (nat size)] ∧ many ≤ 1000 ∧ 0 < size ∧ R = RL ((arrowsM is first size many).map encP)
theorem arr_len (is : List Int) (first size : Nat) : ∀ n, (arrowsM is first size n).length ≤ n
  | 0 => Nat.le_refl 0
  | n + 1 => by
    have := arr_len is first size n
    show (arrStep _ _ _).length ≤ _
    unfold arrStep
    split
    · rw [List.length_append, List.length_singleton]
      omega
    · omega
theorem shpP (p : PrI) : Shp (encP p) 1 := shp_tup fun d hd => by
  simp only [List.mem_cons, List.not_mem_nil, or_false] at hd
  rcases hd with rfl | rfl
  · exact shp_int
  · exact shp_int
theorem eqvP (a b : PrI) : PyData.eqv (encP a) (encP b) = decide (a = b) := eqvSt (a := a) (b := b)
theorem shPs (l : List PrI) : SeqAt.shaped (.list (l.map encP)) = true := (shp_list (shp_map fun m => shpP m)).ok (by decide)
theorem any_of {α : Type} [DecidableEq α] {f : α → PyData} (h : ∀ a b, PyData.eqv (f a) (f b) = decide (a = b)) {m : α} {l : List α} : ((l.map f).any fun z => PyData.eqv z (f m)) = decide (m ∈ l) := by
  induction l with
  | nil => simp
  | cons x l ih =>
    rw [List.map_cons, List.any_cons, ih, h]
    by_cases e : x = m
    · simp [e]
    · by_cases q : m ∈ l
      · simp [q]
      · have : ¬ m = x := fun z => e z.symm
        simp [e, q, this]
section
variable {P : Program} {w : World} {K : PySem.W.Frag} {mg : Str → Option Value} {base : Heap} {C : Addr} {f : Nat → Addr} {fd : Nat → FuncData} {xc : Nat → Addr}
theorem ok_l_mix (T : Top K mg C f fd xc) : FnOk P w K mg base CX0 1 (f 17) (fd 17) ["_law_script", "_law_k"] (spG K D_l_mix) := by
  refine Fun.pure T.l_mix.F sc_l_mix (fun as R hD => ?_) (by decide) fun cdv A outer s H E hr => ⟨_, (pss_cons (ps_set (i := 2) sc_l_mix.nd rfl (Or.inl rfl) (pe_op op_add (pe_op op_mul pe_int (pv 1)) pe_int))
  (pss_cut (ps_if (pt_cmpR op_lt (pv 1) (pe_callB call_len_seq (by rfl) T.n_len (by decide +kernel) (pa_cons (pv 0) pa_nil)) (nomark _)) (pss_one (ps_set (i := 2) sc_l_mix.nd rfl (Or.inl rfl) (pe_op op_add (pv 2) (pe_op op_mul (pe_ix ix_list (pv 0) (pv 1) (fun _ _ => rfl)) pe_int)))) pss_nil)
  (pss_one (ps_ret (pe_op op_mod (pe_op op_mul (pv 2) pe_int) pe_int))))), fun as R hD He σ Q E k => ?_⟩
  · obtain ⟨is, n, rfl, _⟩ := hD
    rfl
  · obtain ⟨is, n, rfl, rfl⟩ := hD
    refine q_set E (xd_addN (xd_mulN xd_int (xd_var rfl) (.inl (by decide))) xd_int) fun σ H e E => ?_
    refine q_cut (S := Unit) E (fun _ => True) (fun _ => [.rdl (is.map .int), .dat (nat n), .dat (.int (((7919 * n + 12345 : Nat) : Int) + mixI is n))]) ?_ ?_
    · refine s_when E (xt_test (xd_ltN (xd_var rfl) (xd_lenL (xr_rdl rfl) (List.length_map _)))) (fun hb H e E => ?_) (fun hb H e E => ?_)
      · have hl := of_decide_eq_true hb
        have hx := at_getD (0 : Int) hl
        refine s_set E (xd_II (xd_var rfl) (xd_C (xd_atL (xr_rdl rfl) (xd_var rfl) (getmap hx)) xd_int (.inr ⟨by decide, by decide⟩))) fun σ H e E => ⟨(), trivial, ?_⟩
        unfold mixI
        rw [if_pos hl]
        exact E
      · refine ⟨(), trivial, ?_⟩
        unfold mixI
        rw [if_neg (of_decide_eq_false hb), Int.add_zero]
        exact E
    · rintro _ σ H _ E
      refine s_ret E (xd_is (xd_C (xd_C (xd_var rfl) xd_int (.inr ⟨by decide, by decide⟩)) xd_int (by decide)) ?_) k
      exact congrArg PyData.int (Int.toNat_of_nonneg (Int.emod_nonneg _ (by decide))).symm
theorem ok_l_word (T : Top K mg C f fd xc) : FnOk P w K mg base CX0 1 (f 18) (fd 18) ["_law_cell", "_law_k"] (spG K D_l_word) := by
  refine Fun.pure T.l_word.F sc_l_word (fun as R hD => ?_) (by decide) fun cdv A outer s H E hr => ⟨_, (pss_cons (ps_set (i := 2) sc_l_word.nd rfl (Or.inl rfl) pe_str)
  (pss_cons (ps_set (i := 3) sc_l_word.nd rfl (Or.inl rfl) (pe_op op_add pe_int (pe_op op_mod (pv 0) pe_int)))
  (pss_cons (ps_set (i := 4) sc_l_word.nd rfl (Or.inl rfl) (pe_op op_mod (pe_op op_fdiv (pv 0) pe_int) (pv 3)))
  (pss_cons (ps_set (i := 5) sc_l_word.nd rfl (Or.inl rfl) pe_str)
  (pss_cons (ps_for PassesOwn.never rfl (pi_range1 rfl T.n_range (pa_cons (pv 3) pa_nil)) (pg_name (i := 6) sc_l_word.nd rfl (Or.inl rfl))
  (pss_cons (ps_set (i := 7) sc_l_word.nd rfl (Or.inl rfl) pe_int)
  (pss_cut (ps_if (pt_cmpR op_eq (pv 6) (pv 4) (nomark _)) (pss_one (ps_set (i := 7) sc_l_word.nd rfl (Or.inl rfl) (pv 1))) pss_nil)
  (pss_one (ps_set (i := 5) sc_l_word.nd rfl (Or.inl rfl) (pe_op op_add_str (pv 5) (pe_ix ix_str (pv 2) (pe_op op_mod (pe_op op_add (pe_op op_add (pe_op op_fdiv (pv 0) pe_int) (pe_op op_mul pe_int (pv 6))) (pe_op op_mul pe_int (pv 7))) pe_int) (fun _ _ => rfl))))))))
  (pss_cons (ps_if (pt_cmpR op_in_seq (pv 5) (pe_lst (pa_cons pe_str (pa_cons pe_str (pa_cons pe_str (pa_cons pe_str (pa_cons pe_str pa_nil)))))) (by rfl)) (pss_one (ps_set (i := 5) sc_l_word.nd rfl (Or.inl rfl) (pe_op op_add_str (pe_slice sl_str (pv 5) (po_some pe_int) po_none) pe_str))) pss_nil)
  (pss_one (ps_ret (pv 5))))))))), fun as R hD He σ Q E k => ?_⟩
  · obtain ⟨c, n, rfl, _⟩ := hD
    rfl
  · obtain ⟨c, n, rfl, hn, rfl⟩ := hD
    refine q_set E xd_str fun σ H e E => ?_
    refine q_set E (xd_addN xd_int (xd_modN (xd_var rfl) xd_int (by decide))) fun σ H e E => ?_
    refine q_set E (xd_modN (xd_divN (xd_var rfl) xd_int (by decide)) (xd_var rfl) (Nat.lt_of_lt_of_le Nat.zero_lt_two (Nat.le_add_right 2 _))) fun σ H e E => ?_
    refine q_set E xd_str fun σ H e E => ?_
    unfold wordM at k
    have hz : 2 + c % 7 ≤ 8 := by omega
    generalize 2 + c % 7 = z at hz k E
    generalize c / 7 % z = a at k E
    refine q_for (S := Unit) (fun m _ => True) (fun m _ => [.dat (nat c), .dat (nat n), .dat (.str letters), .dat (nat z), .dat (nat a), .dat (.str (wordL c n a m)), .any, .any]) () E (xi_range (xd_var rfl) (by omega)) trivial (.refl _) (fun _ _ _ _ => trivial) (fun m hm => gok_name) (fun G m s σ H hm is E => ?_) (fun s σ H is E => ?_)
    · refine q_set E xd_int fun σ H e E => ?_
      refine q_cut (S := Unit) E (fun _ => True) (fun _ => [.dat (nat c), .dat (nat n), .dat (.str letters), .dat (nat z), .dat (nat a), .dat (.str (wordL c n a m)), .dat (nat m), .dat (nat (if m = a then n else 0))]) ?_ ?_
      · refine s_when E (xt_test (xd_eqN (xd_var rfl) (xd_var rfl))) (fun hb H e E => ?_) (fun hb H e E => ?_)
        · refine s_set E (xd_var rfl) fun σ H e E => ⟨(), trivial, ?_⟩
          rw [if_pos (of_decide_eq_true hb)]
          exact E
        · refine ⟨(), trivial, ?_⟩
          rw [if_neg (of_decide_eq_false hb)]
          exact E
      · rintro _ σ H _ E
        have hl := wordL_len c n a m
        have h26 : (c / 49 + 5 * m + 7 * (if m = a then n else 0)) % 26 < 26 := Nat.mod_lt _ (by decide)
        refine s_set E (xd_addS (xd_var rfl) (xd_atS (xd_var (d := .str letters) rfl) (xd_modN (xd_addN (xd_addN (xd_divN (xd_var rfl) xd_int (by decide)) (xd_mulN xd_int (xd_var rfl) (.inl (by decide)))) (xd_mulN xd_int (xd_var rfl) (.inl (by decide)))) xd_int (by decide)) (by decide +kernel) (at_getD 0 (show _ < letters.cps.toList.length from (show letters.cps.toList.length = 26 by decide +kernel) ▸ h26))) (by
          rw [hl]
          show m + 1 ≤ 100000
          omega)) fun σ H e E => ⟨(), trivial, ?_⟩
        rw [wordL_succ]
        exact E.wk (.same (.same (.same (.same (.same (.same (.drop (.drop .nil))))))))
    · have hl := wordL_len c n a z
      generalize wordL c n a z = t at hl k E
      refine q_when E (xt_test (xd_inS (ns := kinds) (xd_var rfl) (xr_new (xl_lst (xs_cons xd_str (xs_cons xd_str (xs_cons xd_str (xs_cons xd_str (xs_cons xd_str xs_nil))))) lenk)))) (fun hb H e E => ?_) (fun hb H e E => ?_)
      · rw [if_pos (of_decide_eq_true hb)] at k
        refine s_set E (xd_addS (xd_slS (xd_var rfl) (xo_some xd_int) xo_none (by omega)) xd_str (by
          have := cutS_length t (some 1) none
          have : (Str.ofString "q").length = 1 := by decide +kernel
          omega)) fun σ H e E => ?_
        exact s_ret E (xd_var rfl) k
      · rw [if_neg (of_decide_eq_false hb)] at k
        exact s_ret E (xd_var rfl) k
theorem ok_l_order (T : Top K mg C f fd xc) : FnOk P w K mg base CX0 2 (f 19) (fd 19) ["_law_script", "_law_first", "_law_n"] (spG K D_l_order) := by
  refine Fun.pure T.l_order.F sc_l_order (fun as R hD => ?_) (by decide) fun cdv A outer s H E hr => ⟨_, (pss_cons (ps_set (i := 3) sc_l_order.nd rfl (Or.inl rfl) (pe_lst pa_nil))
  (pss_cons (ps_for PassesOwn.never rfl (pi_range1 rfl T.n_range (pa_cons (pv 2) pa_nil)) (pg_name (i := 4) sc_l_order.nd rfl (Or.inl rfl))
  (pss_cons (ps_set (i := 5) sc_l_order.nd rfl (Or.inl rfl) (pe_call (ok_l_mix T) (hr.mono (by decide)) (by rfl) T.l_mix.m T.l_mix.F.kp T.l_mix.b .nil pass0 (pa_cons (pv 0) (pa_cons (pe_op op_add (pv 1) (pv 4)) pa_nil))))
  (pss_cons (ps_set (i := 6) sc_l_order.nd rfl (Or.inl rfl) (pe_op op_mod (pv 5) (pe_op op_add (pe_callB call_len_seq (by rfl) T.n_len (by decide +kernel) (pa_cons (pv 3) pa_nil)) pe_int)))
  (pss_cons (ps_expr (pe_bm PySem.F.plainAttrs_list PySem.F.slot_list_insert PySem.F.type_list_insert mt_ins (pv 3) (pa_cons (pv 6) (pa_cons (pv 4) pa_nil))))
  (pss_cons (ps_set (i := 7) sc_l_order.nd rfl (Or.inl rfl) (pe_op op_mod (pe_op op_fdiv (pv 5) pe_int) (pe_op op_sub (pe_callB call_len_seq (by rfl) T.n_len (by decide +kernel) (pa_cons (pv 3) pa_nil)) (pv 6))))
  (pss_one (ps_expr (pe_bm PySem.F.plainAttrs_list PySem.F.slot_list_insert PySem.F.type_list_insert mt_ins (pv 3) (pa_cons (pe_op op_add (pe_op op_add (pv 6) pe_int) (pv 7)) (pa_cons (pv 4) pa_nil))))))))))
  (pss_one (ps_ret (pv 3))))), fun as R hD He σ Q E k => ?_⟩
  · obtain ⟨is, first, n, rfl, _⟩ := hD
    rfl
  · obtain ⟨is, first, n, rfl, hn, rfl⟩ := hD
    refine q_setL E (xl_lst xs_nil lenk) fun a σ H e E => ?_
    refine q_for (S := Addr) (fun m _ => True) (fun m s => [.rdl (is.map .int), .dat (nat first), .dat (nat n), .lst s ((orderM is first m).map nat), .any, .any, .any, .any]) a E (xi_range (xd_var rfl) (by omega)) trivial (.refl _) (fun _ _ _ _ => trivial) (fun m hm => gok_name) (fun G m s σ H hm _ E => ?_) (fun s σ H _ E => ?_)
    · have hl := order_len is first m
      refine q_set E (xd_call (D := D_l_mix) (xa_r (xr_rdl rfl) (xa_d (xd_addN (xd_var rfl) (xd_var rfl)) xa_nil)) ⟨_, _, rfl, rfl⟩) fun σ H e E => ?_
      have es : orderM is first (m + 1) = ordStep (mixM is (first + m)) m (orderM is first m) := rfl
      rw [es]
      generalize mixM is (first + m) = c at E
      generalize orderM is first m = l at hl E
      refine q_set E (xd_modN (xd_var rfl) (xd_addN (xd_lenL (xr_lst rfl) (List.length_map _)) xd_int) (Nat.succ_pos _)) fun σ H e E => ?_
      have hlt : c % (l.length + 1) < l.length + 1 := Nat.mod_lt _ (Nat.succ_pos _)
      unfold ordStep
      generalize c % (l.length + 1) = t at hlt E
      refine q_ins E rfl (xd_var rfl) (xd_var rfl) (by rw [List.length_map]; omega) (by omega) fun H E => ?_
      have ei : ((l.map nat).take t ++ [nat m] ++ (l.map nat).drop t) = (insM l t m).map nat := by
        unfold insM
        rw [List.map_append, List.map_append, List.map_take, List.map_drop]
        rfl
      rw [ei] at E
      have hi := ins_len (l := l) (n := t) (x := m)
      refine q_set E (xd_modN (xd_divN (xd_var rfl) xd_int (by decide)) (xd_subN (xd_lenL (xr_lst rfl) (List.length_map _)) (xd_var rfl) (by omega)) (by omega)) fun σ H e E => ?_
      have hm2 := Nat.mod_lt (c / 64) (show 0 < (insM l t m).length - t by omega)
      generalize c / 64 % ((insM l t m).length - t) = f at hm2 E
      refine s_ins E rfl (xd_addN (xd_addN (xd_var rfl) xd_int) (xd_var rfl)) (xd_var rfl) (by rw [List.length_map]; omega) (by
        show t + 1 + f ≤ 100000
        omega) fun H E => ⟨s, trivial, ?_⟩
      have ej : ∀ (q : Nat) (l2 : List Nat), ((l2.map nat).take q ++ [nat m] ++ (l2.map nat).drop q) = (insM l2 q m).map nat := fun q l2 => by
        unfold insM
        rw [List.map_append, List.map_append, List.map_take, List.map_drop]
        rfl
      rw [ej] at E
      exact E.wk (.same (.same (.same (.same (.drop (.drop (.drop (.drop .nil))))))))
    · exact s_retV E rfl k
theorem ok_l_arrows (T : Top K mg C f fd xc) : FnOk P w K mg base CX0 2 (f 20) (fd 20) ["_law_script", "_law_first", "_law_many", "_law_size"] (spG K D_l_arrows) := by
  refine Fun.pure T.l_arrows.F sc_l_arrows (fun as R hD => ?_) (by decide) fun cdv A outer s H E hr => ⟨_, (pss_cons (ps_set (i := 4) sc_l_arrows.nd rfl (Or.inl rfl) (pe_lst pa_nil))
  (pss_cons (ps_for PassesOwn.never rfl (pi_range1 rfl T.n_range (pa_cons (pv 2) pa_nil)) (pg_name (i := 5) sc_l_arrows.nd rfl (Or.inl rfl))
  (pss_cons (ps_set (i := 6) sc_l_arrows.nd rfl (Or.inl rfl) (pe_call (ok_l_mix T) (hr.mono (by decide)) (by rfl) T.l_mix.m T.l_mix.F.kp T.l_mix.b .nil pass0 (pa_cons (pv 0) (pa_cons (pe_op op_add (pv 1) (pv 5)) pa_nil))))
  (pss_cons (ps_set (i := 7) sc_l_arrows.nd rfl (Or.inl rfl) (pe_op op_mod (pv 6) (pv 3)))
  (pss_cons (ps_set (i := 8) sc_l_arrows.nd rfl (Or.inl rfl) (pe_op op_mod (pe_op op_fdiv (pv 6) pe_int) (pv 3)))
  (pss_one (ps_if (PW.pt (pw_and (pt_cmpR op_ne (pv 7) (pv 8) (nomark _)) (pw_and1 (pt_cmpR (op_notInD (hu65 hr)) (pe_tup (pa_cons (pe_callB (call_min2 rfl) (by rfl) T.n_min (by decide +kernel) (pa_cons (pv 7) (pa_cons (pv 8) pa_nil))) (pa_cons (pe_callB (call_max2 rfl) (by rfl) T.n_max (by decide +kernel) (pa_cons (pv 7) (pa_cons (pv 8) pa_nil))) pa_nil))) (pv 4) (by rfl))))) (pss_one (ps_expr (pe_bm PySem.F.plainAttrs_list PySem.F.slot_list_append PySem.F.type_list_append mt_append (pv 4) (pa_cons (pe_tup (pa_cons (pe_callB (call_min2 rfl) (by rfl) T.n_min (by decide +kernel) (pa_cons (pv 7) (pa_cons (pv 8) pa_nil))) (pa_cons (pe_callB (call_max2 rfl) (by rfl) T.n_max (by decide +kernel) (pa_cons (pv 7) (pa_cons (pv 8) pa_nil))) pa_nil))) pa_nil)))) pss_nil))))))
  (pss_one (ps_ret (pv 4))))), fun as R hD He σ Q E k => ?_⟩
  · obtain ⟨is, first, n, z, rfl, _⟩ := hD
    rfl
  · obtain ⟨is, first, n, z, rfl, hn, hz, rfl⟩ := hD
    refine q_setL E (xl_lst xs_nil lenk) fun a σ H e E => ?_
    refine q_for (S := Addr) (fun m _ => True) (fun m s => [.rdl (is.map .int), .dat (nat first), .dat (nat n), .dat (nat z), .lst s ((arrowsM is first z m).map encP), .any, .any, .any, .any]) a E (xi_range (xd_var rfl) (by omega)) trivial (.refl _) (fun _ _ _ _ => trivial) (fun m hm => gok_name) (fun G m s σ H hm _ E => ?_) (fun s σ H _ E => ?_)
    · have hl := arr_len is first z m
      refine q_set E (xd_call (D := D_l_mix) (xa_r (xr_rdl rfl) (xa_d (xd_addN (xd_var rfl) (xd_var rfl)) xa_nil)) ⟨_, _, rfl, rfl⟩) fun σ H e E => ?_
      have es : arrowsM is first z (m + 1) = arrStep (mixM is (first + m)) z (arrowsM is first z m) := rfl
      rw [es]
      generalize mixM is (first + m) = c at E
      generalize arrowsM is first z m = l at hl E
      refine q_set E (xd_modN (xd_var rfl) (xd_var rfl) hz) fun σ H e E => ?_
      refine q_set E (xd_modN (xd_divN (xd_var rfl) xd_int (by decide)) (xd_var rfl) hz) fun σ H e E => ?_
      unfold arrStep
      generalize c % z = x at E
      generalize c / 64 % z = y at E
      refine s_when E (b := !decide (x = y) && !decide ((min x y, max x y) ∈ l)) (xt_and (xt_test (xd_neN (xd_var rfl) (xd_var rfl))) fun h => (xt_test (xd_is (xd_niD (d := encP (min x y, max x y)) (xd_tup (xs_cons (xd_minN (xd_var rfl) (xd_var rfl)) (xs_cons (xd_maxN (xd_var rfl) (xd_var rfl)) xs_nil)) lenk) (xr_lst rfl) ((shpP _).ok (by decide)) (shPs _)) (by rw [any_of eqvP] <;> congr)))) (fun hb H e E => ?_) (fun hb H e E => ?_)
      · rw [Bool.and_eq_true, Bool.not_eq_true', Bool.not_eq_true'] at hb
        refine s_app E rfl (xd_tup (xs_cons (xd_minN (xd_var rfl) (xd_var rfl)) (xs_cons (xd_maxN (xd_var rfl) (xd_var rfl)) xs_nil)) lenk) (by rw [List.length_map]; omega) fun H E => ⟨s, trivial, ?_⟩
        rw [if_pos ⟨of_decide_eq_false hb.1, of_decide_eq_false hb.2⟩, List.map_append]
        exact E.wk (.same (.same (.same (.same (.same (.drop (.drop (.drop (.drop .nil)))))))))
      · refine ⟨s, trivial, ?_⟩
        rw [if_neg (fun z => by
          rw [decide_eq_false z.1, decide_eq_false z.2] at hb
          cases hb)]
        exact E.wk (.same (.same (.same (.same (.same (.drop (.drop (.drop (.drop .nil)))))))))
    · exact s_retV E rfl k
end

end Q3

namespace Q3
open PySem L2 Evl PyProof.Rows

/-! ## sorted -/
def insS (x : Nat) : List Nat → List Nat
  | [] => [x]
  | y :: l => if x ≤ y then x :: y :: l else y :: insS x l
def srt : List Nat → List Nat
  | [] => []
  | x :: l => insS x (srt l)
theorem insS_perm (x : Nat) : ∀ l, (insS x l).Perm (x :: l)
  | [] => .refl _
  | y :: l => by
    unfold insS
    split
    · exact .refl _
    · exact ((insS_perm x l).cons y).trans (.swap x y l)
theorem srt_perm : ∀ l, (srt l).Perm l
  | [] => .refl _
  | x :: l => (insS_perm x (srt l)).trans ((srt_perm l).cons x)
theorem insS_up (x : Nat) : ∀ {l : List Nat}, l.Pairwise (· ≤ ·) → (insS x l).Pairwise (· ≤ ·)
  | [], _ => by
    unfold insS
    simp
  | y :: l, h => by
    unfold insS
    have h1 := List.pairwise_cons.mp h
    split
    · rename_i hxy
      refine List.pairwise_cons.mpr ⟨fun z hz => ?_, h⟩
      rcases List.mem_cons.mp hz with rfl | hz
      · exact hxy
      · exact Nat.le_trans hxy (h1.1 z hz)
    · rename_i hxy
      refine List.pairwise_cons.mpr ⟨fun z hz => ?_, insS_up x h1.2⟩
      rcases List.mem_cons.mp ((insS_perm x l).mem_iff.mp hz) with rfl | hz
      · omega
      · exact h1.1 z hz
theorem srt_up : ∀ l, (srt l).Pairwise (· ≤ ·)
  | [] => .nil
  | x :: l => insS_up x (srt_up l)
theorem up_one : ∀ {l m : List Int}, l.Perm m → l.Pairwise (· ≤ ·) → m.Pairwise (· ≤ ·) → l = m
  | [], m, p, _, _ => (List.nil_perm.mp p).symm
  | x :: l, [], p, _, _ => by
    have := p.length_eq
    simp at this
  | x :: l, y :: m, p, h, h' => by
    have a1 := List.pairwise_cons.mp h
    have a2 := List.pairwise_cons.mp h'
    have e : x = y := by
      have q1 : x ∈ y :: m := p.mem_iff.mp List.mem_cons_self
      have q2 : y ∈ x :: l := p.mem_iff.mpr List.mem_cons_self
      rcases List.mem_cons.mp q1 with z | z
      · exact z
      · rcases List.mem_cons.mp q2 with w | w
        · exact w.symm
        · have := a2.1 x z
          have := a1.1 y w
          omega
    subst e
    rw [up_one (List.Perm.cons_inv p) a1.2 a2.2]
theorem srt_is {ms : List Int} {ns : List Nat} (p : ms.Perm (ns.map Int.ofNat)) (h : ms.Pairwise (· ≤ ·)) : ms = (srt ns).map Int.ofNat := by
  refine up_one (p.trans ((srt_perm ns).map _).symm) h ?_
  rw [List.pairwise_map]
  exact (srt_up ns).imp fun h => Int.ofNat_le.mpr h
theorem tp_ints {H : Hp} : ∀ (ns : List Int), TpAll H (ns.map V.int) (ns.map PyData.int)
  | [] => .nil
  | n :: ns => .cons (.int n) (tp_ints ns)
section
variable {K : PySem.W.Frag} {Γ : List SD} {te : TE}
theorem xl_sortT {ns : List Nat} (ha : Xd K te Γ (.tuple (ns.map nat))) (hl : ns.length < 64) : Xl K (tCB (rSortT K) (tCons te tNil)) Γ ((srt ns).map nat) := fun He H σ G E Q q =>
  ha He H σ G E _ fun v H2 e2 t2 => by
    obtain ⟨a, xs, rfl, hx, hs⟩ := t2.tup_eq
    rw [nats_ints] at hs
    have e := ints_of_tpAll hs
    subst e
    refine ⟨a, _, rfl, st_of hx, by rw [List.length_map]; exact hl, fun ms p h1 h2 hp => ?_⟩
    rw [srt_is h1 h2]
    refine q p _ _ (e2.trans (Ex.new hp)) (fresh_back e2 hp) upd_same ?_
    rw [nats_ints]
    exact tp_ints _
end
end Q3

namespace Q3
open PySem L2 Evl
/-! ## drawing: want, wider, lookers -/
def wantP (g : Gr) (st : St2) (w k : Nat) : Bool := decide ((stp g k).w = w) && canM (stp g k) st.1
def wantM (g : Gr) (st : St2) (w : Nat) : Int := match (List.range g.steps.length).find? (wantP g st w) with
  | some k => if (stp g k).up then 1 else -1
  | none => 0
def D_l_want : List SD → Res → Prop := fun as R => ∃ (g : Gr) (st : St2) (w : Nat), as = [.dat (encG g), .dat (encSt st), .dat (nat w)] ∧ ShortG g ∧ R = RD (.int (wantM g st w))
def wideC (c a : Nat) (up : Bool) : Nat := (c &&& (1 <<< a - 1)) ||| (if up then 1 else 0) <<< a ||| (c >>> a) <<< (a + 1)
def wideS (a : Nat) (s : Stp) : Stp := ⟨s.w + (if decide (a ≤ s.w) then 1 else 0), s.up, s.tk, s.fl⟩
def wideM (g : Gr) (a : Nat) (kind : Str) (up : Bool) (word : Str) : Gr := ⟨g.wires.take a ++ [(word, kind)] ++ g.wires.drop a, g.steps.map (wideS a), g.marks, wideC g.code a up⟩
def D_l_wider : List SD → Res → Prop := fun as R => ∃ (g : Gr) (a : Nat) (kind : Str) (up : Bool) (word : Str), as = [.dat (encG g), .dat (nat a), .dat (.str kind), .dat (.bool up), .dat (.str word)] ∧ a ≤ 1000 ∧ g.wires.length ≤ 1000 ∧ g.steps.length ≤ 1000 ∧ g.code < 2 ^ 64 ∧ R = RD (encG (wideM g a kind up word))
def orsM (l : List Nat) (b : Nat) : Nat := l.foldl (fun n k => n ||| 1 <<< k) b
def thereM (g : Gr) (m : Nat) : Nat := (g.steps.take m).foldl (fun n s => orsM (s.tk ++ s.fl) n) g.marks
def freeM (t : Nat) : List Nat := (List.range 64).filter fun p => decide (t >>> p &&& 1 = 0)
def lookS (c p : Nat) (s : Stp) (k : Nat) : Stp := if (c / 3) >>> k &&& 1 = 1 then ⟨s.w, s.up, srt (s.tk ++ [p]), srt (s.fl ++ [p])⟩ else s
def lookP (g : Gr) (c : Nat) : Nat := (freeM (thereM g g.steps.length)).getD (c % 3) 0
def lookM (g : Gr) (c : Nat) : Gr := ⟨g.wires, (List.range g.steps.length).map fun k => lookS c (lookP g c) (stp g k) k, g.marks ||| 1 <<< lookP g c, g.code⟩
def D_l_lookers : List SD → Res → Prop := fun as R => ∃ (g : Gr) (c : Nat), as = [.dat (encG g), .dat (nat c)] ∧ g.steps.length ≤ 1000 ∧ (∀ s ∈ g.steps, s.tk.length < 60 ∧ s.fl.length < 60 ∧ ∀ x ∈ s.tk ++ s.fl, x ≤ 1000000) ∧ c % 3 < (freeM (thereM g g.steps.length)).length ∧ R = RD (encG (lookM g c))
theorem free_le {t p : Nat} (h : p ∈ freeM t) : p < 64 := List.mem_range.mp (List.mem_filter.mp h).1
theorem there_more {g : Gr} {m : Nat} {s : Stp} (h : g.steps[m]? = some s) : thereM g (m + 1) = orsM (s.tk ++ s.fl) (thereM g m) := by
  unfold thereM
  rw [filt_take h, List.foldl_append]
  rfl
theorem ors_more {l : List Nat} {m x b : Nat} (h : l[m]? = some x) : orsM (l.take (m + 1)) b = orsM (l.take m) b ||| 1 <<< x := by
  unfold orsM
  rw [filt_take h, List.foldl_append]
  rfl
section
variable {P : Program} {w : World} {K : PySem.W.Frag} {mg : Str → Option Value} {base : Heap} {C : Addr} {f : Nat → Addr} {fd : Nat → FuncData} {xc : Nat → Addr}
theorem ok_l_want (T : Top K mg C f fd xc) : FnOk P w K mg base CX0 2 (f 25) (fd 25) ["_law_graph_here", "_law_stand", "_law_wire"] (spG K D_l_want) := by
  refine Fun.pure T.l_want.F sc_l_want (fun as R hD => ?_) (by decide) fun cdv A outer s H E hr => ⟨_, (pss_cons (ps_for PassesOwn.never rfl (pi_range1 rfl T.n_range (pa_cons (pe_callB call_len_seq (by rfl) T.n_len (by decide +kernel) (pa_cons (pe_ix ix_tup (pv 0) pe_int (fun _ _ => rfl)) pa_nil)) pa_nil)) (pg_name (i := 3) sc_l_want.nd rfl (Or.inl rfl))
  (pss_one (ps_if (PW.pt (pw_and (pt_cmpR op_eq (pe_ix ix_tup (pe_ix ix_tup (pe_ix ix_tup (pv 0) pe_int (fun _ _ => rfl)) (pv 3) (fun _ _ => rfl)) pe_int (fun _ _ => rfl)) (pv 2) (nomark _)) (pw_and1 (pt_val (pe_call (ok_l_can T) (hr.mono (by decide)) (by rfl) T.l_can.m T.l_can.F.kp T.l_can.b .nil pass0 (pa_cons (pv 0) (pa_cons (pv 1) (pa_cons (pv 3) pa_nil)))))))) (pss_one (ps_ret (pe_ix ix_list (pe_lst (pa_cons (pe_un un_neg pe_int) (pa_cons pe_int pa_nil))) (pe_callTy call_int1 (by rfl) T.n_int (by decide +kernel) (pa_cons (pe_ix ix_tup (pe_ix ix_tup (pe_ix ix_tup (pv 0) pe_int (fun _ _ => rfl)) (pv 3) (fun _ _ => rfl)) pe_int (fun _ _ => rfl)) pa_nil)) (fun _ _ => rfl)))) pss_nil)))
  (pss_one (ps_ret pe_int))), fun as R hD He σ Q E k => ?_⟩
  · obtain ⟨g, st, n, rfl, _⟩ := hD
    rfl
  · obtain ⟨g, st, n, rfl, S, rfl⟩ := hD
    have sl := S.S.2
    refine q_for (S := Unit) (fun m s => (List.range m).find? (wantP g st n) = none) (fun m s => [.dat (encG g), .dat (encSt st), .dat (nat n), .any]) () E (xi_range (xd_len (xd_at (xd_var rfl) xd_int rfl) (List.length_map _)) (by omega)) rfl (.refl _) (fun _ _ _ _ => trivial) (fun m hm => gok_name) (fun G m s σ H hm is E => ?_) (fun s σ H is E => ?_)
    · have hs := stp_at hm
      refine s_when E (b := wantP g st n m) (xt_and (xt_test (xd_eqN (xd_at (xd_at (d := encS (stp g m)) (xd_at (xd_var rfl) xd_int rfl) (xd_var rfl) (getmap hs)) xd_int rfl) (xd_var rfl))) fun h => (xt_B (xd_call (D := D_l_can) (xa_d (xd_var rfl) (xa_d (xd_var rfl) (xa_d (xd_var rfl) xa_nil))) ⟨_, _, _, _, rfl, hs, S.at_ hm, rfl⟩))) (fun hb H e E => ?_) (fun hb H e E => ?_)
      · have hw : wantM g st n = if (stp g m).up then 1 else -1 := by
          unfold wantM
          rw [find_some_more is hb hm]
        rw [hw] at k
        refine s_ret E (xd_atL (n := if (stp g m).up then 1 else 0) (xr_new (xl_lst (xs_cons (xd_un xd_int) (xs_cons xd_int xs_nil)) lenk)) (xd_intN (xd_at (xd_at (d := encS (stp g m)) (xd_at (xd_var rfl) xd_int rfl) (xd_var rfl) (getmap hs)) xd_int rfl)) ?_) k
        cases (stp g m).up <;> rfl
      · exact ⟨(), find_none_more is hb, E.wk (.same (.same (.same (.drop .nil))))⟩
    · unfold wantM at k
      rw [is] at k
      refine s_ret E xd_int k
theorem ok_l_wider (T : Top K mg C f fd xc) : FnOk P w K mg base CX0 1 (f 27) (fd 27) ["_law_graph_here", "_law_at", "_law_kind", "_law_up_here", "_law_word_here"] (spG K D_l_wider) := by
  refine Fun.pure T.l_wider.F sc_l_wider (fun as R hD => ?_) (by decide) fun cdv A outer s H E hr => ⟨_, (pss_cons (ps_asg (pv 0) (pg_tup rfl (pgs_cons (pg_name (i := 5) sc_l_wider.nd rfl (Or.inl rfl)) (pgs_cons (pg_name (i := 6) sc_l_wider.nd rfl (Or.inl rfl)) (pgs_cons (pg_name (i := 7) sc_l_wider.nd rfl (Or.inl rfl)) (pgs_cons (pg_name (i := 8) sc_l_wider.nd rfl (Or.inl rfl)) pgs_nil))))))
  (pss_cons (ps_set (i := 9) sc_l_wider.nd rfl (Or.inl rfl) (pe_op op_and (pv 8) (pe_op op_sub (pe_op op_shl pe_int (pv 1)) pe_int)))
  (pss_cons (ps_set (i := 8) sc_l_wider.nd rfl (Or.inl rfl) (pe_op op_or (pe_op op_or (pv 9) (pe_op op_shl (pe_callTy call_int1 (by rfl) T.n_int (by decide +kernel) (pa_cons (pv 3) pa_nil)) (pv 1))) (pe_op op_shl (pe_op op_shr (pv 8) (pv 1)) (pe_op op_add (pv 1) pe_int))))
  (pss_cons (ps_setLc (i := 10) (own := [("_law_wire", 11), ("_law_rise", 12), ("_law_takes", 13), ("_law_fills", 14)]) rfl sc_l_wider.nd rfl rfl (sw_true rfl rfl rfl (by decide +kernel)) (pi_tup (pv 6)) (blkOk_by (own := [("_law_wire", 11), ("_law_rise", 12), ("_law_takes", 13), ("_law_fills", 14)]) (N := N_l_wider) (sc := defScope s_l_wider) (by decide +kernel)) (fun _ _ _ _ _ => (pg_tupK K 4 rfl (pgs_cons (pg_name (i := 11) sc_l_wider.nd rfl (Or.inl rfl)) (pgs_cons (pg_name (i := 12) sc_l_wider.nd rfl (Or.inl rfl)) (pgs_cons (pg_name (i := 13) sc_l_wider.nd rfl (Or.inl rfl)) (pgs_cons (pg_name (i := 14) sc_l_wider.nd rfl (Or.inl rfl)) pgs_nil)))))) (fun _ _ _ _ _ => pts_nil) (fun _ _ _ _ _ => (pe_tup (pa_cons (pe_op op_add (pv 11) (pe_callTy call_int1 (by rfl) T.n_int (by decide +kernel) (pa_cons (pe_cmpR op_ge (pv 11) (pv 1) (nomark _)) pa_nil))) (pa_cons (pv 12) (pa_cons (pv 13) (pa_cons (pv 14) pa_nil)))))))
  (pss_one (ps_ret (pe_tup (pa_cons (pe_op op_catA (pe_op op_catA (pe_slice sl_tupA (pv 5) po_none (po_some (pv 1))) (pe_tup (pa_cons (pe_tup (pa_cons (pv 4) (pa_cons (pv 2) pa_nil))) pa_nil))) (pe_slice sl_tupA (pv 5) (po_some (pv 1)) po_none)) (pa_cons (pe_callTy call_tuple_of (by rfl) T.n_tuple (by decide +kernel) (pa_cons (pv 10) pa_nil)) (pa_cons (pv 7) (pa_cons (pv 8) pa_nil))))))))))), fun as R hD He σ Q E k => ?_⟩
  · obtain ⟨g, a, kind, up, word, rfl, _⟩ := hD
    rfl
  · obtain ⟨g, a, kind, up, word, rfl, ha, hw, hs, hc, rfl⟩ := hD
    unfold wideM at k
    refine q_asg E (xd_var rfl) gok4 fun σ H e E => ?_
    have h1 : 1 ≤ 1 <<< a := by
      rw [Nat.one_shiftLeft]
      exact Nat.one_le_two_pow
    have h2 : g.code >>> a < 2 ^ 64 := Nat.lt_of_le_of_lt (by rw [Nat.shiftRight_eq_div_pow]; exact Nat.div_le_self _ _) hc
    refine q_set E (xd_and (xd_var rfl) (xd_subN (xd_shl1 xd_int (xd_var rfl) (by omega)) xd_int h1)) fun σ H e E => ?_
    refine q_set E (d := nat (wideC g.code a up)) (xd_or (xd_or (xd_var rfl) (xd_shl (xd_intN (xd_var rfl)) (xd_var rfl) (by cases up <;> decide) (by omega))) (xd_shl (xd_shr (xd_var rfl) (xd_var rfl)) (xd_addN (xd_var rfl) xd_int) h2 (by
      show a + 1 ≤ 1000000
      omega))) fun σ H e E => ?_
    have E2 : Q3.Env K He H σ [.dat (encG g), .dat (nat a), .dat (.str kind), .dat (.bool up), .dat (.str word), .dat (.tuple (g.wires.map encW)), .dat (.tuple (g.steps.map encS)), .dat (nat g.marks), .dat (nat (wideC g.code a up)), .any, .any, .any, .any, .any, .any] [] :=
      E.wk (.same (.same (.same (.same (.same (.same (.same (.same (.same (.drop (.drop (.drop (.drop (.drop (.drop .nil)))))))))))))))
    clear E
    generalize wideC g.code a up = cc at E2 k
    refine q_setL E2 (ds := (g.steps.map (wideS a)).map encS) (xl_is (xl_lcAll (l := g.steps) (fun s => encS (wideS a s)) (xi_encT dfS (xd_var rfl)) rfl (by omega) trivial fun m x hx => ⟨_, _, gok4, by decide, (by
      rw [getD_of _ hx]
      show Xd K _ _ (.tuple [nat (x.w + (if decide (a ≤ x.w) then 1 else 0)), .bool x.up, encNs x.tk, encNs x.fl])
      exact xd_tup (xs_cons (xd_addN (a := x.w) (b := if decide (a ≤ x.w) then 1 else 0) (xd_var rfl) (xd_intN (xd_geN (a := x.w) (b := a) (xd_var rfl) (xd_var rfl)))) (xs_cons (xd_var rfl) (xs_cons (xd_var rfl) (xs_cons (xd_var rfl) xs_nil)))) lenk)⟩) (by
      rw [List.map_map]
      rfl)) fun al σ H e E => ?_
    refine s_ret E (xd_is (xd_tup (xs_cons (xd_catT (xd_catT (xd_slT (ds := g.wires.map encW) (xd_var rfl) xo_none (xo_some (xd_var rfl))) (xd_tup (xs_cons (d := encW (word, kind)) (xd_tup (xs_cons (xd_var rfl) (xs_cons (xd_var rfl) xs_nil)) lenk) xs_nil) lenk) (by
      rw [cut_to, List.length_map, List.length_take]
      simp only [List.length_cons, List.length_nil]
      omega)) (xd_slT (ds := g.wires.map encW) (xd_var rfl) (xo_some (xd_var rfl)) xo_none) (by
      rw [cut_to, cut_from, List.length_append, List.length_map, List.length_map, List.length_take, List.length_drop]
      simp only [List.length_cons, List.length_nil]
      omega)) (xs_cons (xd_tupOf (xr_lst rfl)) (xs_cons (xd_var rfl) (xs_cons (xd_var rfl) xs_nil)))) lenk) (by
      rw [cut_to, cut_from]
      unfold encG
      rw [List.map_append, List.map_append]
      rfl)) k
theorem ok_l_lookers (T : Top K mg C f fd xc) : FnOk P w K mg base CX0 1 (f 28) (fd 28) ["_law_graph_here", "_law_cell"] (spG K D_l_lookers) := by
  refine Fun.pure T.l_lookers.F sc_l_lookers (fun as R hD => ?_) (by decide) fun cdv A outer s H E hr => ⟨_, (pss_cons (ps_set (i := 2) sc_l_lookers.nd rfl (Or.inr rfl) (pe_ix ix_tup (pv 0) pe_int (fun _ _ => rfl)))
  (pss_cons (ps_for PassesOwn.never rfl (pi_tup (pe_ix ix_tup (pv 0) pe_int (fun _ _ => rfl))) (pg_tup rfl (pgs_cons (pg_name (i := 3) sc_l_lookers.nd rfl (Or.inl rfl)) (pgs_cons (pg_name (i := 4) sc_l_lookers.nd rfl (Or.inl rfl)) (pgs_cons (pg_name (i := 5) sc_l_lookers.nd rfl (Or.inl rfl)) (pgs_cons (pg_name (i := 6) sc_l_lookers.nd rfl (Or.inl rfl)) pgs_nil)))))
  (pss_one (ps_for PassesOwn.never rfl (pi_tup (pe_op op_catA (pv 5) (pv 6))) (pg_name (i := 7) sc_l_lookers.nd rfl (Or.inl rfl))
  (pss_one (ps_set (i := 2) sc_l_lookers.nd rfl (Or.inr rfl) (pe_op op_or (pv 2) (pe_op op_shl pe_int (pv 7))))))))
  (pss_cons (ps_set (i := 7) sc_l_lookers.nd rfl (Or.inl rfl) (pe_ix ix_list (pe_lc (own := [("_law_p", 11)]) (by rfl) sc_l_lookers.nd (pi_range1 rfl T.n_range (pa_cons pe_int pa_nil)) (blkOk_by (own := [("_law_p", 11)]) (N := N_l_lookers) (sc := defScope s_l_lookers) (by decide +kernel)) (fun _ _ _ _ _ => (pg_name (i := 11) sc_l_lookers.nd rfl (Or.inl rfl))) (fun _ _ _ _ _ => (pts_one (pt_cmpR op_eq (pe_op op_and (pe_op op_shr (pv 2) (pv 11)) pe_int) pe_int (nomark _)))) (fun _ _ _ _ _ => (pv 11))) (pe_op op_mod (pv 1) pe_int) (fun _ _ => rfl)))
  (pss_cons (ps_set (i := 8) sc_l_lookers.nd rfl (Or.inl rfl) (pe_lst pa_nil))
  (pss_cons (ps_for PassesOwn.never rfl (pi_enumT (by rfl) T.n_enumerate (pa_cons (pe_ix ix_tup (pv 0) pe_int (fun _ _ => rfl)) pa_nil)) (pg_tup rfl (pgs_cons (pg_name (i := 9) sc_l_lookers.nd rfl (Or.inl rfl)) (pgs_cons (pg_name (i := 10) sc_l_lookers.nd rfl (Or.inl rfl)) pgs_nil)))
  (pss_cons (ps_asg (pv 10) (pg_tup rfl (pgs_cons (pg_name (i := 3) sc_l_lookers.nd rfl (Or.inl rfl)) (pgs_cons (pg_name (i := 4) sc_l_lookers.nd rfl (Or.inl rfl)) (pgs_cons (pg_name (i := 5) sc_l_lookers.nd rfl (Or.inl rfl)) (pgs_cons (pg_name (i := 6) sc_l_lookers.nd rfl (Or.inl rfl)) pgs_nil))))))
  (pss_cut (ps_if (pt_cmpR op_eq (pe_op op_and (pe_op op_shr (pe_op op_fdiv (pv 1) pe_int) (pv 9)) pe_int) pe_int (nomark _)) (pss_cons (ps_set (i := 5) sc_l_lookers.nd rfl (Or.inl rfl) (pe_callTy call_tuple_of (by rfl) T.n_tuple (by decide +kernel) (pa_cons (pe_callB cr_sortedTu (by rfl) T.n_sorted (by decide +kernel) (pa_cons (pe_op op_catA (pv 5) (pe_tup (pa_cons (pv 7) pa_nil))) pa_nil)) pa_nil)))
  (pss_one (ps_set (i := 6) sc_l_lookers.nd rfl (Or.inl rfl) (pe_callTy call_tuple_of (by rfl) T.n_tuple (by decide +kernel) (pa_cons (pe_callB cr_sortedTu (by rfl) T.n_sorted (by decide +kernel) (pa_cons (pe_op op_catA (pv 6) (pe_tup (pa_cons (pv 7) pa_nil))) pa_nil)) pa_nil))))) pss_nil)
  (pss_one (ps_expr (pe_bm PySem.F.plainAttrs_list PySem.F.slot_list_append PySem.F.type_list_append mt_append (pv 8) (pa_cons (pe_tup (pa_cons (pv 3) (pa_cons (pv 4) (pa_cons (pv 5) (pa_cons (pv 6) pa_nil))))) pa_nil)))))))
  (pss_one (ps_ret (pe_tup (pa_cons (pe_ix ix_tup (pv 0) pe_int (fun _ _ => rfl)) (pa_cons (pe_callTy call_tuple_of (by rfl) T.n_tuple (by decide +kernel) (pa_cons (pv 8) pa_nil)) (pa_cons (pe_op op_or (pe_ix ix_tup (pv 0) pe_int (fun _ _ => rfl)) (pe_op op_shl pe_int (pv 7))) (pa_cons (pe_ix ix_tup (pv 0) pe_int (fun _ _ => rfl)) pa_nil)))))))))))), fun as R hD He σ Q E k => ?_⟩
  · obtain ⟨g, c, rfl, _⟩ := hD
    rfl
  · obtain ⟨g, c, rfl, sl, hs, hf, rfl⟩ := hD
    refine q_set E (xd_at (xd_var rfl) xd_int rfl) fun σ H e E => ?_
    refine q_for (S := Unit) (fun m _ => True) (fun m _ => [.dat (encG g), .dat (nat c), .dat (nat (thereM g m)), .any, .any, .any, .any, .any, .any, .any, .any, .any]) () E (xi_encT dfS (xd_at (xd_var rfl) xd_int rfl)) trivial (.refl _) (fun _ _ _ _ => trivial) (fun m hm => gok4) (fun G m _ σ H hm _ E => ?_) (fun _ σ H _ E => ?_)
    · have hx := at_getD dfS hm
      generalize g.steps.getD m dfS = s at hx E
      obtain ⟨b1, b2, b3⟩ := hs s (List.mem_of_getElem? hx)
      rw [there_more hx]
      refine s_for (S := Unit) (fun j _ => True) (fun j _ => [.dat (encG g), .dat (nat c), .dat (nat (orsM ((s.tk ++ s.fl).take j) (thereM g m))), .any, .any, .any, .any, .any, .any, .any, .any, .any]) () E (xi_encT (l := s.tk ++ s.fl) (enc := nat) 0 (xd_is (xd_catT (ds := s.tk.map nat) (es := s.fl.map nat) (xd_var rfl) (xd_var rfl) (by
        rw [List.length_map, List.length_map]
        omega)) (by rw [List.map_append]))) trivial (.same (.same (.same (.drop (.drop (.drop (.drop (.drop (.drop (.drop (.drop (.drop .nil)))))))))))) (fun _ _ _ _ => trivial) (fun j hj => gok_name) (fun G j _ σ H hj _ E => ?_) (fun _ σ H _ E => ?_)
      · have hy := at_getD 0 hj
        generalize (s.tk ++ s.fl).getD j 0 = y at hy E
        refine s_set E (xd_or (xd_var rfl) (xd_shl1 xd_int (xd_var rfl) (b3 y (List.mem_of_getElem? hy)))) fun σ H e E => ⟨(), trivial, ?_⟩
        rw [ors_more hy]
        exact E.wk (.same (.same (.same (.drop (.drop (.drop (.drop (.drop (.drop (.drop (.drop (.drop .nil))))))))))))
      · rw [List.take_length] at E
        exact ⟨(), trivial, E.wk (.same (.same (.same (.drop (.drop (.drop (.drop (.drop (.drop (.drop (.drop (.drop .nil))))))))))))⟩
    · have hp := at_getD 0 hf
      unfold lookM at k
      unfold lookP at k
      have hp64 : (freeM (thereM g g.steps.length)).getD (c % 3) 0 < 64 := free_le (List.mem_of_getElem? hp)
      refine q_set E (d := nat ((freeM (thereM g g.steps.length)).getD (c % 3) 0)) (xd_atL (ds := (freeM (thereM g g.steps.length)).map nat) (xr_new (xl_lc (l := List.range 64) (fun p => decide (thereM g g.steps.length >>> p &&& 1 = 0)) nat (xi_range xd_int (by decide)) (by decide) (by decide) trivial fun m x hx => (by
        obtain ⟨_, e0⟩ := range_at hx
        subst e0
        exact ⟨_, _, gok_name, by decide, (xt_test (xd_eqN (xd_and (xd_shr (xd_var rfl) (xd_var rfl)) xd_int) xd_int)), fun hb => (xd_var rfl)⟩))) (xd_modN (xd_var rfl) xd_int (by decide)) (getmap hp)) fun σ H e E => ?_
      generalize (freeM (thereM g g.steps.length)).getD (c % 3) 0 = p at hp64 k E
      refine q_setL E (xl_lst xs_nil lenk) fun a σ H e E => ?_
      refine q_for (S := Addr) (fun m _ => True) (fun m a => [.dat (encG g), .dat (nat c), .any, .any, .any, .any, .any, .dat (nat p), .lst a (((List.range m).map fun k => lookS c p (stp g k) k).map encS), .any, .any, .any]) a E (xi_enumET dfS (xd_at (xd_var rfl) xd_int rfl)) trivial (.same (.same (.drop (.same (.same (.same (.same (.same (.same (.same (.same (.same .nil)))))))))))) (fun _ _ _ _ => trivial) (fun m hm => gok2) (fun G m a σ H hm _ E => ?_) (fun a σ H _ E => ?_)
      · have hx := at_getD dfS hm
        have e0 : g.steps.getD m dfS = stp g m := rfl
        rw [e0] at hx E
        have e1 : ((List.range (m + 1)).map fun k => lookS c p (stp g k) k).map encS = ((List.range m).map fun k => lookS c p (stp g k) k).map encS ++ [encS (lookS c p (stp g m) m)] := by
          rw [List.range_succ, List.map_append, List.map_append]
          rfl
        rw [e1]
        generalize stp g m = s at hx E
        obtain ⟨b1, b2, b3⟩ := hs s (List.mem_of_getElem? hx)
        refine q_asg E (xd_var rfl) gok4 fun σ H e E => ?_
        refine q_cut (S := Unit) E (fun _ => True) (fun _ => [.dat (encG g), .dat (nat c), .any, .dat (nat (lookS c p s m).w), .dat (.bool (lookS c p s m).up), .dat (encNs (lookS c p s m).tk), .dat (encNs (lookS c p s m).fl), .dat (nat p), .lst a (((List.range m).map fun k => lookS c p (stp g k) k).map encS), .any, .any, .any]) ?_ ?_
        · refine s_when E (xt_test (xd_eqN (xd_and (xd_shr (xd_divN (xd_var rfl) xd_int (by decide)) (xd_var rfl)) xd_int) xd_int)) (fun hb H e E => ?_) (fun hb H e E => ?_)
          · have el : lookS c p s m = ⟨s.w, s.up, srt (s.tk ++ [p]), srt (s.fl ++ [p])⟩ := if_pos (of_decide_eq_true hb)
            rw [el]
            refine q_set E (d := encNs (srt (s.tk ++ [p]))) (xd_tupOf (xr_new (xl_sortT (ns := s.tk ++ [p]) (xd_is (xd_catT (ds := s.tk.map nat) (es := [nat p]) (xd_var rfl) (xd_tup (xs_cons (xd_var rfl) xs_nil) lenk) (by
              rw [List.length_map]
              show s.tk.length + 1 ≤ 100000
              omega)) (by
              rw [List.map_append]
              rfl)) (by
              rw [List.length_append]
              show s.tk.length + 1 < 64
              omega)))) fun σ H e E => ?_
            refine s_set E (d := encNs (srt (s.fl ++ [p]))) (xd_tupOf (xr_new (xl_sortT (ns := s.fl ++ [p]) (xd_is (xd_catT (ds := s.fl.map nat) (es := [nat p]) (xd_var rfl) (xd_tup (xs_cons (xd_var rfl) xs_nil) lenk) (by
              rw [List.length_map]
              show s.fl.length + 1 ≤ 100000
              omega)) (by
              rw [List.map_append]
              rfl)) (by
              rw [List.length_append]
              show s.fl.length + 1 < 64
              omega)))) fun σ H e E => ?_
            exact ⟨(), trivial, E.wk (.same (.same (.drop (.same (.same (.same (.same (.same (.same (.drop (.drop (.drop .nil))))))))))))⟩
          · have el : lookS c p s m = s := if_neg (of_decide_eq_false hb)
            rw [el]
            exact ⟨(), trivial, E.wk (.same (.same (.drop (.same (.same (.same (.same (.same (.same (.drop (.drop (.drop .nil))))))))))))⟩
        · rintro _ σ H _ E
          refine s_app E rfl (xd_tup (xs_cons (xd_var rfl) (xs_cons (xd_var rfl) (xs_cons (xd_var rfl) (xs_cons (xd_var rfl) xs_nil)))) lenk) (by
            rw [List.length_map, List.length_map, List.length_range]
            omega) fun H E => ⟨a, trivial, ?_⟩
          exact E.wk (.same (.same (.drop (.drop (.drop (.drop (.drop (.same (.same (.drop (.drop (.drop .nil))))))))))))
      · refine s_ret E (xd_tup (xs_cons (xd_at (xd_var rfl) xd_int rfl) (xs_cons (xd_tupOf (xr_lst rfl)) (xs_cons (xd_or (xd_at (xd_var rfl) xd_int rfl) (xd_shl1 xd_int (xd_var rfl) (by omega))) (xs_cons (xd_at (xd_var rfl) xd_int rfl) xs_nil)))) lenk) k
end

end Q3

namespace Q3
open PySem L2 Evl
/-! ## drawing: any_gate, any_net -/
def IsGate (N : Nat) (d : PyData) : Prop := ∃ gt : Gate, d = encGt gt ∧ gt.length ≤ N
def D_l_any_gate : List SD → Res → Prop := fun as R => ∃ (is : List Int) (first : Nat) (g : Gr) (sts : List St2) (want : Int) (w : Nat), as = [.rdl (is.map .int), .dat (nat first), .dat (encG g), .rdl (sts.map encSt), .dat (.int want), .dat (nat w)] ∧ ShortG g ∧ 0 < g.wires.length ∧ g.wires.length ≤ 1000 ∧ sts.length ≤ 10000 ∧ R = RQ (IsGate sts.length)
theorem shpR (p : Row) : Shp (encR p) 1 := shpP p
theorem eqvR (a b : Row) : PyData.eqv (encR a) (encR b) = decide (a = b) := eqvP a b
theorem shRs (l : List Row) : SeqAt.shaped (.list (l.map encR)) = true := shPs l
def NetOk (W N : Nat) (n : List NetW) : Prop := n.length ≤ W ∧ ∀ x ∈ n, x.2.1.length ≤ 2 ∧ x.2.2.length ≤ 2 ∧ ∀ gt ∈ x.2.1 ++ x.2.2, gt.length ≤ N
def IsNet (W N : Nat) (d : PyData) : Prop := ∃ n : List NetW, d = encN n ∧ NetOk W N n
def D_l_any_net : List SD → Res → Prop := fun as R => ∃ (is : List Int) (first : Nat) (g : Gr) (sts : List St2), as = [.rdl (is.map .int), .dat (nat first), .dat (encG g), .rdl (sts.map encSt)] ∧ ShortG g ∧ g.wires.length ≤ 1000 ∧ sts.length ≤ 10000 ∧ R = RQ (IsNet g.wires.length sts.length)
def wantI (m : Nat) : Int := if m = 0 then 1 else -1
theorem wantI_half {m : Nat} (h : m < 2) : PyData.int ((1 - wantI m) / 2) = nat m := by
  match m, h with
  | 0, _ => rfl
  | 1, _ => rfl
def GsOk (N : Nat) (x : List Gate) : Prop := x.length ≤ 2 ∧ ∀ gt ∈ x, gt.length ≤ N
section
variable {P : Program} {w : World} {K : PySem.W.Frag} {mg : Str → Option Value} {base : Heap} {C : Addr} {f : Nat → Addr} {fd : Nat → FuncData} {xc : Nat → Addr}
theorem ok_l_any_gate (T : Top K mg C f fd xc) : FnOk P w K mg base CX0 3 (f 37) (fd 37) ["_law_script", "_law_first", "_law_graph_here", "_law_some", "_law_want_here", "_law_wire"] (spG K D_l_any_gate) := by
  refine Fun.pure T.l_any_gate.F sc_l_any_gate (fun as R hD => ?_) (by decide) fun cdv A outer s H E hr => ⟨_, (pss_cons (ps_set (i := 6) sc_l_any_gate.nd rfl (Or.inl rfl) (pe_lst pa_nil))
  (pss_cons (ps_set (i := 7) sc_l_any_gate.nd rfl (Or.inl rfl) (pe_op op_sub (pe_op op_shl pe_int (pe_callB call_len_seq (by rfl) T.n_len (by decide +kernel) (pa_cons (pe_ix ix_tup (pv 2) pe_int (fun _ _ => rfl)) pa_nil))) pe_int))
  (pss_cons (ps_set (i := 8) sc_l_any_gate.nd rfl (Or.inl rfl) (pe_call (ok_l_mix T) (hr.mono (by decide)) (by rfl) T.l_mix.m T.l_mix.F.kp T.l_mix.b .nil pass0 (pa_cons (pv 0) (pa_cons (pv 1) pa_nil))))
  (pss_cons (ps_for PassesOwn.never rfl (pi_enum (by rfl) T.n_enumerate (pa_cons (pv 3) pa_nil)) (pg_tup rfl (pgs_cons (pg_name (i := 9) sc_l_any_gate.nd rfl (Or.inl rfl)) (pgs_cons (pg_name (i := 10) sc_l_any_gate.nd rfl (Or.inl rfl)) pgs_nil)))
  (pss_cons (ps_set (i := 11) sc_l_any_gate.nd rfl (Or.inl rfl) (pe_op op_mod (pe_op op_fdiv (pe_call (ok_l_mix T) (hr.mono (by decide)) (by rfl) T.l_mix.m T.l_mix.F.kp T.l_mix.b .nil pass0 (pa_cons (pv 0) (pa_cons (pe_op op_add (pv 1) (pe_op op_mod (pv 9) pe_int)) pa_nil))) (pe_op op_add pe_int (pv 9))) pe_int))
  (pss_one (ps_if (PW.pt (pw_or (PW.pt (pw_and (pt_cmpR op_eq (pe_call (ok_l_want T) (hr.mono (by decide)) (by rfl) T.l_want.m T.l_want.F.kp T.l_want.b .nil pass0 (pa_cons (pv 2) (pa_cons (pv 10) (pa_cons (pv 5) pa_nil)))) (pv 4) (nomark _)) (pw_and1 (pt_cmpR op_gt (pv 11) pe_int (nomark _))))) (pw_or1 (pt_cmpR op_eq (pv 11) pe_int (nomark _))))) (pss_cons (ps_set (i := 12) sc_l_any_gate.nd rfl (Or.inl rfl) (pv 7))
  (pss_cut (ps_if (pt_cmpR op_eq (pe_op op_mod (pv 8) pe_int) pe_int (nomark _)) (pss_one (ps_set (i := 12) sc_l_any_gate.nd rfl (Or.inl rfl) (pe_op op_xor (pv 7) (pe_op op_shl pe_int (pe_op op_mod (pe_op op_add (pe_op op_fdiv (pv 8) pe_int) (pv 9)) (pe_callB call_len_seq (by rfl) T.n_len (by decide +kernel) (pa_cons (pe_ix ix_tup (pv 2) pe_int (fun _ _ => rfl)) pa_nil))))))) pss_nil)
  (pss_one (ps_if (pt_cmpR (op_notInD (hu65 hr)) (pe_tup (pa_cons (pv 12) (pa_cons (pe_op op_and (pe_ix ix_tup (pv 10) pe_int (fun _ _ => rfl)) (pv 12)) pa_nil))) (pv 6) (by rfl)) (pss_one (ps_expr (pe_bm PySem.F.plainAttrs_list PySem.F.slot_list_append PySem.F.type_list_append mt_append (pv 6) (pa_cons (pe_tup (pa_cons (pv 12) (pa_cons (pe_op op_and (pe_ix ix_tup (pv 10) pe_int (fun _ _ => rfl)) (pv 12)) pa_nil))) pa_nil)))) pss_nil)))) pss_nil))))
  (pss_one (ps_ret (pe_callTy call_tuple_of (by rfl) T.n_tuple (by decide +kernel) (pa_cons (pv 6) pa_nil)))))))), fun as R hD He σ Q E k => ?_⟩
  · obtain ⟨is, first, g, sts, want, w, rfl, _⟩ := hD
    rfl
  · obtain ⟨is, first, g, sts, want, w, rfl, S, wl0, wl, hN, rfl⟩ := hD
    refine q_setL E (xl_lst xs_nil lenk) fun a σ H e E => ?_
    have h1 : 1 ≤ 1 <<< g.wires.length := by
      rw [Nat.one_shiftLeft]
      exact Nat.one_le_two_pow
    refine q_set E (xd_subN (xd_shl1 xd_int (xd_len (xd_at (xd_var rfl) xd_int rfl) (List.length_map _)) (by omega)) xd_int h1) fun σ H e E => ?_
    refine q_set E (xd_call (D := D_l_mix) (xa_r (xr_rdl rfl) (xa_d (xd_var rfl) xa_nil)) ⟨_, _, rfl, rfl⟩) fun σ H e E => ?_
    have E2 : Q3.Env K He H σ [.rdl (is.map .int), .dat (nat first), .dat (encG g), .rdl (sts.map encSt), .dat (.int want), .dat (nat w), .lst a (([] : List Row).map encR), .dat (nat (1 <<< g.wires.length - 1)), .dat (nat (mixM is first)), .any, .any, .any, .any] [] :=
      E.wk (.same (.same (.same (.same (.same (.same (.same (.same (.same (.drop (.drop (.drop (.drop .nil)))))))))))))
    clear E
    generalize 1 <<< g.wires.length - 1 = full at E2
    generalize mixM is first = c at E2
    refine q_for (S := Addr × Gate) (fun m s => s.2.length ≤ m) (fun m s => [.rdl (is.map .int), .dat (nat first), .dat (encG g), .rdl (sts.map encSt), .dat (.int want), .dat (nat w), .lst s.1 (s.2.map encR), .dat (nat full), .dat (nat c), .any, .any, .any, .any]) (a, []) E2 (xi_enumER (0, 0) rfl) (Nat.zero_le _) (.refl _) (fun _ _ _ _ => trivial) (fun m hm => gok2) (fun G m s σ H hm is_ E => ?_) (fun s σ H is_ E => ?_)
    · obtain ⟨a, rs⟩ := s
      have hx := at_getD ((0, 0) : St2) hm
      generalize sts.getD m (0, 0) = st at hx E
      have hl : rs.length ≤ m := is_
      refine q_set E (xd_modN (xd_divN (xd_call (D := D_l_mix) (xa_r (xr_rdl rfl) (xa_d (xd_addN (xd_var rfl) (xd_modN (xd_var rfl) xd_int (by decide))) xa_nil)) ⟨_, _, rfl, rfl⟩) (xd_addN xd_int (xd_var rfl)) (by
        show 0 < 7 + m ∧ 7 + m < 1073741824
        omega)) xd_int (by decide)) fun σ H e E => ?_
      have E3 : Q3.Env K He H σ [.rdl (is.map .int), .dat (nat first), .dat (encG g), .rdl (sts.map encSt), .dat (.int want), .dat (nat w), .lst a (rs.map encR), .dat (nat full), .dat (nat c), .dat (nat m), .dat (encSt st), .dat (nat (mixM is (first + m % 12) / (7 + m) % 24)), .any] G :=
        E.wk (.same (.same (.same (.same (.same (.same (.same (.same (.same (.same (.same (.same (.drop .nil)))))))))))))
      clear E
      generalize mixM is (first + m % 12) / (7 + m) % 24 = bit at E3
      refine s_when E3 (b := (decide (wantM g st w = want) && decide (0 < bit)) || decide (bit = 5)) (xt_or (xt_and (xt_test (xd_eqI (xd_call (D := D_l_want) (xa_d (xd_var rfl) (xa_d (xd_var rfl) (xa_d (xd_var rfl) xa_nil))) ⟨_, _, _, rfl, S, rfl⟩) (xd_var rfl))) fun h => (xt_test (xd_gtN (xd_var rfl) xd_int))) fun h => (xt_test (xd_eqN (xd_var rfl) xd_int))) (fun hb H e E => ?_) (fun hb H e E => ?_)
      · refine q_set E (xd_var rfl) fun σ H e E => ?_
        refine q_cut (S := Nat) E (fun _ => True) (fun care => [.rdl (is.map .int), .dat (nat first), .dat (encG g), .rdl (sts.map encSt), .dat (.int want), .dat (nat w), .lst a (rs.map encR), .dat (nat full), .dat (nat c), .dat (nat m), .dat (encSt st), .dat (nat bit), .dat (nat care)]) ?_ ?_
        · refine s_when E (xt_test (xd_eqN (xd_modN (xd_var rfl) xd_int (by decide)) xd_int)) (fun hb H e E => ?_) (fun hb H e E => ?_)
          · refine s_set E (xd_xor (xd_var rfl) (xd_shl1 xd_int (xd_modN (xd_addN (xd_divN (xd_var rfl) xd_int (by decide)) (xd_var rfl)) (xd_len (xd_at (xd_var rfl) xd_int rfl) (List.length_map _)) wl0) (by
              have := Nat.mod_lt (c / 3 + m) wl0
              exact Nat.le_trans (Nat.le_of_lt this) (by omega)))) fun σ H e E => ⟨_, trivial, E⟩
          · exact ⟨_, trivial, E⟩
        · rintro care σ H _ E
          refine s_when E (b := !decide ((care, st.2 &&& care) ∈ rs)) (xt_test (xd_is (xd_niD (d := encR (care, st.2 &&& care)) (xd_tup (xs_cons (xd_var rfl) (xs_cons (xd_and (xd_at (xd_var (d := encSt st) rfl) xd_int rfl) (xd_var rfl)) xs_nil)) lenk) (xr_lst rfl) ((shpR _).ok (by decide)) (shRs _)) (by rw [any_of eqvR] <;> congr))) (fun hb H e E => ?_) (fun hb H e E => ?_)
          · refine s_app E rfl (d := encR (care, st.2 &&& care)) (xd_tup (xs_cons (xd_var rfl) (xs_cons (xd_and (xd_at (xd_var (d := encSt st) rfl) xd_int rfl) (xd_var rfl)) xs_nil)) lenk) (by rw [List.length_map]; omega) fun H E => ⟨(a, rs ++ [(care, st.2 &&& care)]), ?_, ?_⟩
            · show (rs ++ [(care, st.2 &&& care)]).length ≤ m + 1
              rw [List.length_append]
              show rs.length + 1 ≤ m + 1
              omega
            · rw [List.map_append]
              exact E.wk (.same (.same (.same (.same (.same (.same (.same (.same (.same (.drop (.drop (.drop (.drop .nil)))))))))))))
          · exact ⟨(a, rs), Nat.le_succ_of_le hl, E.wk (.same (.same (.same (.same (.same (.same (.same (.same (.same (.drop (.drop (.drop (.drop .nil)))))))))))))⟩
      · exact ⟨(a, rs), Nat.le_succ_of_le hl, E.wk (.same (.same (.same (.same (.same (.same (.same (.same (.same (.drop (.drop (.drop (.drop .nil)))))))))))))⟩
    · obtain ⟨a, rs⟩ := s
      refine s_ret E (xd_tupOf (xr_lst rfl)) fun v H' e t => k v H' e ⟨_, ⟨rs, rfl, is_⟩, t⟩
theorem ok_l_any_net (T : Top K mg C f fd xc) : FnOk P w K mg base CX0 4 (f 38) (fd 38) ["_law_script", "_law_first", "_law_graph_here", "_law_some"] (spG K D_l_any_net) := by
  refine Fun.pure T.l_any_net.F sc_l_any_net (fun as R hD => ?_) (by decide) fun cdv A outer s H E hr => ⟨_, (pss_cons (ps_set (i := 4) sc_l_any_net.nd rfl (Or.inl rfl) (pe_lst pa_nil))
  (pss_cons (ps_for PassesOwn.never rfl (pi_range1 rfl T.n_range (pa_cons (pe_callB call_len_seq (by rfl) T.n_len (by decide +kernel) (pa_cons (pe_ix ix_tup (pv 2) pe_int (fun _ _ => rfl)) pa_nil)) pa_nil)) (pg_name (i := 5) sc_l_any_net.nd rfl (Or.inl rfl))
  (pss_one (ps_if (pt_cmpR op_eq (pe_ix ix_tup (pe_ix ix_tup (pe_ix ix_tup (pv 2) pe_int (fun _ _ => rfl)) (pv 5) (fun _ _ => rfl)) pe_int (fun _ _ => rfl)) pe_str (nomark _)) (pss_cons (ps_set (i := 6) sc_l_any_net.nd rfl (Or.inl rfl) (pe_lst pa_nil))
  (pss_cons (ps_for PassesOwn.never rfl (pi_list (pe_lst (pa_cons pe_int (pa_cons (pe_un un_neg pe_int) pa_nil)))) (pg_name (i := 7) sc_l_any_net.nd rfl (Or.inl rfl))
  (pss_cons (ps_set (i := 8) sc_l_any_net.nd rfl (Or.inl rfl) (pe_call (ok_l_mix T) (hr.mono (by decide)) (by rfl) T.l_mix.m T.l_mix.F.kp T.l_mix.b .nil pass0 (pa_cons (pv 0) (pa_cons (pe_op op_add (pv 1) (pv 5)) pa_nil))))
  (pss_cons (ps_set (i := 9) sc_l_any_net.nd rfl (Or.inl rfl) (pe_call (ok_l_any_gate T) (hr.mono (by decide)) (by rfl) T.l_any_gate.m T.l_any_gate.F.kp T.l_any_gate.b .nil pass0 (pa_cons (pv 0) (pa_cons (pe_op op_add (pe_op op_add (pv 1) (pe_op op_mul pe_int (pv 5))) (pe_op op_fdiv (pe_op op_sub pe_int (pv 7)) pe_int)) (pa_cons (pv 2) (pa_cons (pv 3) (pa_cons (pv 7) (pa_cons (pv 5) pa_nil))))))))
  (pss_cons (ps_set (i := 10) sc_l_any_net.nd rfl (Or.inl rfl) (pe_tup (pa_cons (pv 9) pa_nil)))
  (pss_cut (ps_if (pt_cmpR op_eq (pe_op op_mod (pv 8) pe_int) pe_int (nomark _)) (pss_one (ps_set (i := 10) sc_l_any_net.nd rfl (Or.inl rfl) (pe_tup (pa_cons (pe_slice sl_tupA (pv 9) po_none (po_some pe_int)) (pa_cons (pe_slice sl_tupA (pv 9) (po_some pe_int) po_none) pa_nil))))) pss_nil)
  (pss_cut (ps_if (pt_cmpR op_eq (pe_op op_mod (pv 8) pe_int) pe_int (nomark _)) (pss_one (ps_set (i := 10) sc_l_any_net.nd rfl (Or.inl rfl) (pe_tup pa_nil))) pss_nil)
  (pss_one (ps_expr (pe_bm PySem.F.plainAttrs_list PySem.F.slot_list_append PySem.F.type_list_append mt_append (pv 6) (pa_cons (pv 10) pa_nil))))))))))
  (pss_one (ps_expr (pe_bm PySem.F.plainAttrs_list PySem.F.slot_list_append PySem.F.type_list_append mt_append (pv 4) (pa_cons (pe_tup (pa_cons (pv 5) (pa_cons (pe_ix ix_list (pv 6) pe_int (fun _ _ => rfl)) (pa_cons (pe_ix ix_list (pv 6) pe_int (fun _ _ => rfl)) pa_nil)))) pa_nil)))))) pss_nil)))
  (pss_one (ps_ret (pe_callTy call_tuple_of (by rfl) T.n_tuple (by decide +kernel) (pa_cons (pv 4) pa_nil)))))), fun as R hD He σ Q E k => ?_⟩
  · obtain ⟨is, first, g, sts, rfl, _⟩ := hD
    rfl
  · obtain ⟨is, first, g, sts, rfl, S, wl, hN, rfl⟩ := hD
    refine q_setL E (xl_lst xs_nil lenk) fun a σ H e E => ?_
    refine q_for (S := Addr × List NetW) (fun m s => NetOk m sts.length s.2) (fun m s => [.rdl (is.map .int), .dat (nat first), .dat (encG g), .rdl (sts.map encSt), .lst s.1 (s.2.map encNw), .any, .any, .any, .any, .any, .any]) (a, []) E (xi_range (xd_len (xd_at (xd_var rfl) xd_int rfl) (List.length_map _)) (by omega)) ⟨Nat.le_refl _, fun _ h => nomatch h⟩ (.refl _) (fun _ _ _ _ => trivial) (fun m hm => gok_name) (fun G m s σ H hm is_ E => ?_) (fun s σ H is_ E => ?_)
    · obtain ⟨a, n⟩ := s
      obtain ⟨hl, hok⟩ : NetOk m sts.length n := is_
      have hx := at_getD (("", "") : Str × Str) hm
      refine s_when E (xt_test (xd_eqS (xd_at (xd_at (d := encW (g.wires.getD m ("", ""))) (xd_at (xd_var rfl) xd_int rfl) (xd_var rfl) (getmap hx)) xd_int rfl) xd_str)) (fun hb H e E => ?_) (fun hb H e E => ?_)
      · refine q_setL E (xl_lst xs_nil lenk) fun b σ H e E => ?_
        refine q_for (S := Addr × List (List Gate)) (fun j s => s.2.length = j ∧ ∀ x ∈ s.2, GsOk sts.length x) (fun j s => [.rdl (is.map .int), .dat (nat first), .dat (encG g), .rdl (sts.map encSt), .lst a (n.map encNw), .dat (nat m), .lst s.1 (s.2.map encGs), .any, .any, .any, .any]) (b, []) E (xi_new (f := fun j => .int (wantI j)) (xl_lst (xs_cons xd_int (xs_cons (xd_un xd_int) xs_nil)) lenk) fun j d hj => by
            match j, hj with
            | 0, hj => cases hj; rfl
            | 1, hj => cases hj; rfl
            | j + 2, hj => simp at hj) ⟨rfl, fun _ h => nomatch h⟩ (.refl _) (fun _ _ _ _ => trivial) (fun j hj => gok_name) (fun G j s σ H hj js_ E => ?_) (fun s σ H js_ E => ?_)
        · obtain ⟨b, gs⟩ := s
          obtain ⟨jl, jok⟩ : gs.length = j ∧ ∀ x ∈ gs, GsOk sts.length x := js_
          have hj2 : j < 2 := hj
          have wl0 : 0 < g.wires.length := by omega
          refine q_set E (xd_call (D := D_l_mix) (xa_r (xr_rdl rfl) (xa_d (xd_addN (xd_var rfl) (xd_var rfl)) xa_nil)) ⟨_, _, rfl, rfl⟩) fun σ H e E => ?_
          refine q_setQ E (P := IsGate sts.length) (xq_call (D := D_l_any_gate) (xa_r (xr_rdl rfl) (xa_d (xd_addN (xd_addN (xd_var rfl) (xd_mulN xd_int (xd_var rfl) (.inl (by decide)))) (xd_is (xd_C (xd_II xd_int (xd_var rfl)) xd_int ⟨by decide, by decide⟩) (wantI_half hj2))) (xa_d (xd_var rfl) (xa_r (xr_rdl rfl) (xa_d (xd_var rfl) (xa_d (xd_var rfl) xa_nil)))))) ⟨_, _, _, _, _, _, rfl, S, wl0, wl, hN, rfl⟩) fun d σ H hd e E => ?_
          obtain ⟨gt, rfl, hgt⟩ := hd
          refine q_set E (d := encGs [gt]) (xd_tup (xs_cons (xd_var rfl) xs_nil) lenk) fun σ H e E => ?_
          refine q_cut (S := List Gate) E (fun x => GsOk sts.length x) (fun x => [.rdl (is.map .int), .dat (nat first), .dat (encG g), .rdl (sts.map encSt), .lst a (n.map encNw), .dat (nat m), .lst b (gs.map encGs), .any, .dat (nat (mixM is (first + m))), .dat (encGt gt), .dat (encGs x)]) ?_ ?_
          · refine s_when E (xt_test (xd_eqN (xd_modN (xd_var rfl) xd_int (by decide)) xd_int)) (fun hb H e E => ?_) (fun hb H e E => ?_)
            · refine s_set E (d := encGs [gt.take 1, gt.drop 1]) (xd_is (xd_tup (xs_cons (xd_slT (ds := gt.map encR) (xd_var rfl) xo_none (xo_some xd_int)) (xs_cons (xd_slT (ds := gt.map encR) (xd_var rfl) (xo_some xd_int) xo_none) xs_nil)) lenk) (by
                rw [show (1 : Int) = ((1 : Nat) : Int) from rfl, cut_to, cut_from]
                rfl)) fun σ H e E => ⟨[gt.take 1, gt.drop 1], ⟨by show 2 ≤ 2; decide, fun x hx => ?_⟩, E.wk (.same (.same (.same (.same (.same (.same (.same (.drop (.same (.same (.same .nil)))))))))))⟩
              simp only [List.mem_cons, List.not_mem_nil, or_false] at hx
              rcases hx with rfl | rfl
              · rw [List.length_take]
                omega
              · rw [List.length_drop]
                omega
            · refine ⟨[gt], ⟨by show 1 ≤ 2; decide, fun x hx => ?_⟩, E.wk (.same (.same (.same (.same (.same (.same (.same (.drop (.same (.same (.same .nil)))))))))))⟩
              rw [List.mem_singleton.mp hx]
              exact hgt
          · rintro x σ H hx E
            refine q_cut (S := List Gate) E (fun x => GsOk sts.length x) (fun x => [.rdl (is.map .int), .dat (nat first), .dat (encG g), .rdl (sts.map encSt), .lst a (n.map encNw), .dat (nat m), .lst b (gs.map encGs), .any, .any, .any, .dat (encGs x)]) ?_ ?_
            · refine s_when E (xt_test (xd_eqN (xd_modN (xd_var rfl) xd_int (by decide)) xd_int)) (fun hb H e E => ?_) (fun hb H e E => ?_)
              · refine s_set E (d := encGs []) (xd_tup xs_nil lenk) fun σ H e E => ⟨[], ⟨Nat.zero_le _, fun _ h => nomatch h⟩, E.wk (.same (.same (.same (.same (.same (.same (.same (.drop (.drop (.drop (.same .nil)))))))))))⟩
              · exact ⟨x, hx, E.wk (.same (.same (.same (.same (.same (.same (.same (.drop (.drop (.drop (.same .nil)))))))))))⟩
            · rintro x σ H hx E
              refine s_app E rfl (xd_var rfl) (by rw [List.length_map]; omega) fun H E => ⟨(b, gs ++ [x]), ⟨?_, fun y hy => ?_⟩, ?_⟩
              · show (gs ++ [x]).length = j + 1
                rw [List.length_append, jl]
                rfl
              · rcases List.mem_append.mp hy with hy | hy
                · exact jok y hy
                · rw [List.mem_singleton.mp hy]
                  exact hx
              · rw [List.map_append]
                exact E.wk (.same (.same (.same (.same (.same (.same (.same (.drop (.drop (.drop (.drop .nil)))))))))))
        · obtain ⟨b, gs⟩ := s
          obtain ⟨jl, jok⟩ : gs.length = 2 ∧ ∀ x ∈ gs, GsOk sts.length x := js_
          match gs, jl with
          | [x, y], _ =>
            obtain ⟨x1, x2⟩ := jok x (by simp)
            obtain ⟨y1, y2⟩ := jok y (by simp)
            refine s_app E rfl (d := encNw (m, x, y)) (xd_tup (xs_cons (xd_var rfl) (xs_cons (xd_atL (n := 0) (xr_lst rfl) xd_int rfl) (xs_cons (xd_atL (n := 1) (xr_lst rfl) xd_int rfl) xs_nil))) lenk) (by rw [List.length_map]; omega) fun H E => ⟨(a, n ++ [(m, x, y)]), ⟨?_, fun z hz => ?_⟩, ?_⟩
            · show (n ++ [(m, x, y)]).length ≤ m + 1
              rw [List.length_append]
              show n.length + 1 ≤ m + 1
              omega
            · rcases List.mem_append.mp hz with hz | hz
              · exact hok z hz
              · rw [List.mem_singleton.mp hz]
                refine ⟨x1, y1, fun gt hgt => ?_⟩
                rcases List.mem_append.mp hgt with h | h
                · exact x2 gt h
                · exact y2 gt h
            · rw [List.map_append]
              exact E.wk (.same (.same (.same (.same (.same (.drop (.drop (.drop (.drop (.drop (.drop .nil)))))))))))
      · exact ⟨(a, n), ⟨Nat.le_succ_of_le hl, hok⟩, E.wk (.same (.same (.same (.same (.same (.drop (.drop (.drop (.drop (.drop (.drop .nil)))))))))))⟩
    · obtain ⟨a, n⟩ := s
      refine s_ret E (xd_tupOf (xr_lst rfl)) fun v H' e t => k v H' e ⟨_, ⟨n, rfl, is_⟩, t⟩
end

end Q3

namespace Q3
open PySem L2 Evl PyProof.Rows

/-! ## a display of one pair, its key a tuple -/
def tDispT (tk tv : TE) : TE := fun σ H Q => ∀ p, H p = none → tk σ (upd H p (.dT [])) fun x H1 => tv σ H1 fun y H2 => H2 p = some (.dT []) ∧ ∃ (b : Addr) (ks : List Key), x = .ref b ∧ H2 b = some (.tup (ks.map kV)) ∧ Q (.ref p) (upd H2 p (.dT [(ks, y)]))
theorem pe_dispT {X : Cx} {pos : Pos} {ke ve : Expr} {tk tv : TE} (hu : X.A.units + 1 < cLine) (hk : PE X ke tk) (hv : PE X ve tv) : PE X (.Dict [some ke] [ve] pos) (tDispT tk tv) := by
  refine ⟨fun pins s σ H Q I q => ?_⟩
  have hn := I.hok.fresh (Nat.le_refl s.heap.objs.size)
  have I1 := I.laid (a := s.heap.objs.size) (o := .dT []) (h' := s.heap.push { cls := .type "dict", data := .dict #[] }) (t' := s.toks) (fun _ _ e => Heap.get?_push_of_some _ e) (Nat.le_refl _) (dt_empty s.heap I.big)
  have one : pairTrees [some ke] [ve] X.env pos = [(eval ke X.env, do let x ← eval ve X.env; standAt pos; pure x)] := rfl
  rw [arm_eval_Dict, zip_pairTrees [some ke] [ve] X.env pos rfl rfl, dictDisplay_pairs _ (by rw [one]; exact List.cons_ne_nil _ _) (by rw [one]; exact (show 1 < 17 by decide))]
  refine wpAny_bind (wpAny_standAt (wpAny_bind ?_))
  unfold subDict
  refine wpAny_bind (wpAny_alloc ?_)
  refine wpAny_bind (wpAny_holding ?_)
  rw [if_pos (by rw [one]; exact (show 1 ≤ 15 by decide))]
  have big : wpAny (model X.prog X.w) X.A (evalPairs (pairTrees [some ke] [ve] X.env pos)) (fun r s3 => ∃ (v2 : Value) (y : V) (H2 : Hp) (b : Addr) (ks : List Key), r = [(.ref b, v2)] ∧ Inv X pins σ H2 s3 ∧ RelV y v2 ∧ H2 s.heap.objs.size = some (.dT []) ∧ H2 b = some (.tup (ks.map kV)) ∧ Q (.ref s.heap.objs.size) (upd H2 s.heap.objs.size (.dT [(ks, y)]))) X.xe _ :=
    pairTrees_cons_walk (thn (hk.run pins _ σ _ _ I1 (q _ hn)) fun u s1 ⟨x, H1, J1, rx, q1⟩ => thn (hv.run pins s1 σ H1 _ J1 q1) fun w2 s2 ⟨y, H2, J2, ry, e, b, ks, ex, eb, q2⟩ => pairTrees_nil_walk (by
      subst ex
      cases (show u = Value.ref b from rx)
      exact ⟨w2, y, H2, b, ks, rfl, J2, ry, e, eb, q2⟩))
  refine wpAny_bind (wpAny_mono big (fun r s3 z => ?_) fun _ _ z => z)
  obtain ⟨v2, y, H2, b, ks, rfl, J2, ry, e, eb, q2⟩ := z
  obtain ⟨z1, hd, xs, rel, dd⟩ := dt_of J2.hok e
  cases rel
  refine wpAny_holding ?_
  refine wpAny_bind ?_
  rw [List.forIn_cons]
  refine wpAny_bind (wpAny_bind (wpAny_dictSet_heap (knd := tupleKind (mixKind X.prog X.w)) (A := X.A) (Nat.lt_of_succ_lt hu) (key_of J2.hok eb) dd (fun h' dd' hs => wpAny_pure ?_) (Nat.zero_le _)))
  dsimp only
  rw [List.forIn_nil]
  refine wpAny_pure (wpAny_pure (wpAny_pure (wpAny_pure ⟨.ref s.heap.objs.size, _, ?_, rfl, q2⟩)))
  obtain ⟨o, es, ep, h1, h2, h3, h4, _, h5⟩ := dd'
  have rel1 : KT H2 (putK [] ks y) (storedH [] ks b v2) := KT.put (.nil) ks eb ry
  refine d_write J2 (by rw [e]; exact True.intro) hs ⟨o, h1⟩ ⟨(show 1 ≤ sizeLine by decide), hd, _, rel1.keeps fun c ys ec => ?_, o, es, ep, h1, h2, h3, h4, h5⟩
  rw [upd_ne (ne_of ec e (fun z => nomatch z))]
  exact ec

/-! ## a dict of stands -/
def keyS (st : St2) : List Key := [.inl (st.1 : Int), .inl (st.2 : Int)]
def kvsS (sts : List St2) : List (List Key × V) := sts.map fun st => (keyS st, V.bl true)
/-- the own dict whose keys are the stands -/
def dOk (sts : List St2) : HO → Hp → Prop := fun o _ => o = .dT (kvsS sts)
theorem keyS_inj {a b : St2} (h : keyS a = keyS b) : a = b := by
  obtain ⟨a1, a2⟩ := a
  obtain ⟨b1, b2⟩ := b
  unfold keyS at h
  simp only [List.cons.injEq, Sum.inl.injEq, and_true] at h
  obtain ⟨h1, h2⟩ := h
  have e1 : a1 = b1 := by omega
  have e2 : a2 = b2 := by omega
  rw [e1, e2]
theorem any_key {sts : List St2} {st : St2} : ((kvsS sts).any fun kv => decide (kv.1 = keyS st)) = decide (st ∈ sts) := by
  unfold kvsS
  rw [List.any_map]
  cases h : decide (st ∈ sts) with
  | true => exact List.any_eq_true.mpr ⟨st, of_decide_eq_true h, decide_eq_true rfl⟩
  | false =>
    refine List.any_eq_false.mpr fun x hx q => ?_
    have e := keyS_inj (of_decide_eq_true q)
    rw [e] at hx
    exact of_decide_eq_false h hx
theorem tp_key {H : Hp} {v : V} {st : St2} (t : Tp H v (encSt st)) : ∃ b, v = .ref b ∧ H b = some (.tup ((keyS st).map kV)) := by
  obtain ⟨b, xs, rfl, hb, hs⟩ := Tp.tup_eq t
  refine ⟨b, rfl, ?_⟩
  cases hs with
  | cons h1 h2 =>
    cases h2 with
    | cons h2 h3 =>
      cases h3
      rw [h1.int_eq, h2.int_eq] at hb
      exact hb
section
variable {K : PySem.W.Frag} {Γ : List SD} {ta tb tl te : TE} {He H : Hp} {σ : L2.St} {G : List (V × SD)} {D : Ends} {tz : TS} {st : St2} {sts : List St2} {i j : Nat} {a : Addr}
theorem s_dispT (E : Env K He H σ Γ G) (hk : Xd K te Γ (encSt st)) (k : ∀ a σ' H', Ex H H' → Env K He H' σ' (Γ.set i (.own a (dOk [st]))) G → D.nx σ' H') : tAsg (tDispT te (tC (.bl true))) (gName i) D σ H := fun p hp => by
  have e0 : Ex H (upd H p (.dT [])) := Ex.new hp
  refine hk He _ σ G (E.mono e0) _ fun v H2 e2 t2 => ?_
  obtain ⟨b, rfl, hb⟩ := tp_key t2
  refine ⟨e2 _ _ upd_same, b, keyS st, rfl, hb, ?_⟩
  have ef : Ex H (upd H2 p (.dT [(keyS st, .bl true)])) := (e0.trans e2).mut hp
  refine k p _ _ ef ((E.mono ef).set (s := .own p (dOk [st])) ⟨rfl, fresh_back E.ex hp, _, upd_same, rfl, fun _ _ => rfl⟩ fun c ec => ?_)
  cases ec
  have fr := E.fresh hp
  exact ⟨fun j t _ hj => fr.1 j t hj, fr.2⟩
theorem q_dispT (E : Env K He H σ Γ G) (hk : Xd K te Γ (encSt st)) (k : ∀ a σ' H', Ex H H' → Env K He H' σ' (Γ.set i (.own a (dOk [st]))) G → tz D σ' H') : tSeq (tAsg (tDispT te (tC (.bl true))) (gName i)) tz D σ H := s_dispT (D := { D with nx := tz D }) E hk k
theorem xt_dni (h : Γ[j]? = some (.own a (dOk sts))) (hk : Xd K te Γ (encSt st)) : Xt K (tB (tDNotIn te (tVar j))) Γ (!decide (st ∈ sts)) := fun He H σ G E Q q =>
  hk He H σ G E _ fun v H2 e2 t2 => by
    rcases (E.mono e2).at_ j _ h with z | ⟨u, hu, rfl, _, o, ho, _, hP⟩
    · cases z
    · obtain ⟨b, rfl, hb⟩ := tp_key t2
      have eo := hP H2 (TEx.refl H2)
      unfold dOk at eo
      subst eo
      refine ⟨_, hu, a, _, rfl, DGet.t ho hb, _, rfl, ?_⟩
      rw [← valV_any, any_key]
      exact q H2 e2
theorem s_dput (E : Env K He H σ Γ G) (h : Γ[j]? = some (.own a (dOk sts))) (hi : Γ[i]? = some (.dat (encSt st))) (hn : st ∉ sts) (hl : sts.length < 100000) (k : ∀ H', Env K He H' σ (Γ.set j (.own a (dOk (sts ++ [st])))) G → D.nx σ H') : sDPut (tVar j) (tVar i) (tC (.bl true)) D σ H := by
  rcases E.at_ j _ h with z | ⟨u, hu, rfl, h0, o, ho, h3, hP⟩
  · cases z
  · rcases E.at_ i _ hi with z | ⟨v, hv, t2⟩
    · cases z
    · obtain ⟨b, rfl, hb⟩ := tp_key t2
      have eo := hP H (TEx.refl H)
      unfold dOk at eo
      subst eo
      have en : putK (kvsS sts) (keyS st) (V.bl true) = kvsS (sts ++ [st]) := by
        unfold putK
        rw [any_key, if_neg (by rw [decide_eq_false hn]; decide)]
        unfold kvsS
        rw [List.map_append]
        rfl
      refine ⟨_, hu, _, hv, a, _, rfl, DPut.t ho hb (by
        unfold kvsS
        rw [List.length_map]
        exact sz_lt hl), ?_⟩
      rw [en]
      exact k _ (E.upd (o := .dT (kvsS (sts ++ [st]))) h rfl (.inl rfl) fun w hw => .inr ⟨hw.1, h0, _, upd_same, rfl, fun _ _ => rfl⟩)
theorem q_dput (E : Env K He H σ Γ G) (h : Γ[j]? = some (.own a (dOk sts))) (hi : Γ[i]? = some (.dat (encSt st))) (hn : st ∉ sts) (hl : sts.length < 100000) (k : ∀ H', Env K He H' σ (Γ.set j (.own a (dOk (sts ++ [st])))) G → tz D σ H') : tSeq (sDPut (tVar j) (tVar i) (tC (.bl true))) tz D σ H := s_dput (D := { D with nx := tz D }) E h hi hn hl k
end
theorem nodup_sub {α : Type} [DecidableEq α] : ∀ {l S : List α}, l.Nodup → (∀ x ∈ l, x ∈ S) → l.length ≤ S.length
  | [], S, _, _ => Nat.zero_le _
  | x :: l, S, nd, h => by
    obtain ⟨h1, h2⟩ := List.nodup_cons.mp nd
    have hx := h x List.mem_cons_self
    have z := nodup_sub (l := l) (S := S.erase x) h2 fun y hy => (List.mem_erase_of_ne (fun e : y = x => h1 (by rw [← e]; exact hy))).mpr (h y (List.mem_cons_of_mem _ hy))
    rw [List.length_erase_of_mem hx] at z
    have := List.length_pos_of_mem hx
    rw [List.length_cons]
    omega
end Q3

namespace Q3
open PySem L2 Evl
/-! ## stands -/
/-- a set of stands, closed under the steps, none of them unsafe -/
def InG (g : Gr) (SS : List St2) : Prop := (g.marks, g.code) ∈ SS ∧ ∀ st ∈ SS, ∀ s ∈ g.steps, canM s st.1 = true → safe s st ∧ behM s st ∈ SS
def IsStands (ds : List PyData) : Prop := ∃ sts : List St2, ds = sts.map encSt ∧ sts.length ≤ 10000
def D_l_stands : List SD → Res → Prop := fun as R => ∃ (g : Gr) (SS : List St2), as = [.dat (encG g)] ∧ ShortG g ∧ InG g SS ∧ SS.length ≤ 10000 ∧ R = RLQ IsStands
def StOk (SS sts : List St2) : Prop := sts.Nodup ∧ ∀ x ∈ sts, x ∈ SS
theorem StOk.len {SS sts : List St2} (h : StOk SS sts) : sts.length ≤ SS.length := nodup_sub h.1 h.2
theorem StOk.more {SS sts : List St2} {x : St2} (h : StOk SS sts) (h1 : x ∉ sts) (h2 : x ∈ SS) : StOk SS (sts ++ [x]) := by
  refine ⟨List.nodup_append.mpr ⟨h.1, by simp, fun a ha b hb => ?_⟩, fun y hy => ?_⟩
  · rw [List.mem_singleton.mp hb]
    exact fun e => h1 (by rw [← e]; exact ha)
  · rcases List.mem_append.mp hy with hy | hy
    · exact h.2 y hy
    · rw [List.mem_singleton.mp hy]
      exact h2
section
variable {P : Program} {w : World} {K : PySem.W.Frag} {mg : Str → Option Value} {base : Heap} {C : Addr} {f : Nat → Addr} {fd : Nat → FuncData} {xc : Nat → Addr}
theorem ok_l_stands (T : Top K mg C f fd xc) : FnOk P w K mg base CX0 2 (f 24) (fd 24) ["_law_graph_here"] (spG K D_l_stands) := by
  refine Fun.pure T.l_stands.F sc_l_stands (fun as R hD => ?_) (by decide) fun cdv A outer s H E hr => ⟨_, (pss_cons (ps_set (i := 1) sc_l_stands.nd rfl (Or.inl rfl) (pe_lst (pa_cons (pe_tup (pa_cons (pe_ix ix_tup (pv 0) pe_int (fun _ _ => rfl)) (pa_cons (pe_ix ix_tup (pv 0) pe_int (fun _ _ => rfl)) pa_nil))) pa_nil)))
  (pss_cons (ps_set (i := 2) sc_l_stands.nd rfl (Or.inl rfl) (pe_dispT (hu_of hr) (pe_ix ix_list (pv 1) pe_int (fun _ _ => rfl)) pe_bl))
  (pss_cons (ps_set (i := 3) sc_l_stands.nd rfl (Or.inl rfl) pe_int)
  (pss_cons (ps_while PassesOwn.never (pt_cmpR op_lt (pv 3) (pe_callB call_len_seq (by rfl) T.n_len (by decide +kernel) (pa_cons (pv 1) pa_nil)) (nomark _)) (pss_cons (ps_for PassesOwn.never rfl (pi_range1 rfl T.n_range (pa_cons (pe_callB call_len_seq (by rfl) T.n_len (by decide +kernel) (pa_cons (pe_ix ix_tup (pv 0) pe_int (fun _ _ => rfl)) pa_nil)) pa_nil)) (pg_name (i := 4) sc_l_stands.nd rfl (Or.inl rfl))
  (pss_one (ps_if (pt_val (pe_call (ok_l_can T) (hr.mono (by decide)) (by rfl) T.l_can.m T.l_can.F.kp T.l_can.b .nil pass0 (pa_cons (pv 0) (pa_cons (pe_ix ix_list (pv 1) (pv 3) (fun _ _ => rfl)) (pa_cons (pv 4) pa_nil))))) (pss_cons (ps_set (i := 5) sc_l_stands.nd rfl (Or.inl rfl) (pe_call (ok_l_behind T) (hr.mono (by decide)) (by rfl) T.l_behind.m T.l_behind.F.kp T.l_behind.b .nil pass0 (pa_cons (pv 0) (pa_cons (pe_ix ix_list (pv 1) (pv 3) (fun _ _ => rfl)) (pa_cons (pv 4) pa_nil)))))
  (pss_one (ps_if (pt_cmp (pc_dnotin (hu_of hr) (pv 5) (pv 2))) (pss_cons (ps_dput (hu_of hr) (pv 2) (pv 5) pe_bl rfl)
  (pss_one (ps_expr (pe_bm PySem.F.plainAttrs_list PySem.F.slot_list_append PySem.F.type_list_append mt_append (pv 1) (pa_cons (pv 5) pa_nil))))) pss_nil))) pss_nil)))
  (pss_one (ps_set (i := 3) sc_l_stands.nd rfl (Or.inl rfl) (pe_op op_add (pv 3) pe_int)))))
  (pss_one (ps_ret (pv 1))))))), fun as R hD He σ Q E k => ?_⟩
  · obtain ⟨g, SS, rfl, _⟩ := hD
    rfl
  · obtain ⟨g, SS, rfl, S, hG, hS, rfl⟩ := hD
    have sl := S.S.2
    refine q_setL E (ds := [(g.marks, g.code)].map encSt) (xl_lst (xs_cons (xd_tup (xs_cons (xd_at (xd_var rfl) xd_int rfl) (xs_cons (xd_at (xd_var rfl) xd_int rfl) xs_nil)) lenk) xs_nil) lenk) fun a σ H e E => ?_
    refine q_dispT (st := (g.marks, g.code)) E (xd_atL (n := 0) (xr_lst rfl) xd_int rfl) fun b σ H e E => ?_
    refine q_set E xd_int fun σ H e E => ?_
    refine q_while (S := (Addr × Addr) × List St2 × Nat) (fun s => StOk SS s.2.1 ∧ s.2.2 ≤ s.2.1.length) (fun s => [.dat (encG g), .lst s.1.1 (s.2.1.map encSt), .own s.1.2 (dOk s.2.1), .dat (nat s.2.2), .any, .any]) (fun s => SS.length - s.2.2) (fun s => decide (s.2.2 < s.2.1.length)) ((a, b), [(g.marks, g.code)], 0) E ⟨⟨by simp, fun x hx => by rw [List.mem_singleton.mp hx]; exact hG.1⟩, Nat.zero_le _⟩ (.refl _) (fun s _ => xt_test (xd_ltN (xd_var rfl) (xd_lenL (xr_lst rfl) (List.length_map _)))) (fun s σ H is hb E => ?_) (fun s σ H is hb E => ?_)
    · obtain ⟨⟨a, b⟩, sts, n⟩ := s
      obtain ⟨ok, hle⟩ : StOk SS sts ∧ n ≤ sts.length := is
      have hn : n < sts.length := of_decide_eq_true hb
      refine q_for (S := (Addr × Addr) × List St2) (fun m s => StOk SS s.2 ∧ n < s.2.length) (fun m s => [.dat (encG g), .lst s.1.1 (s.2.map encSt), .own s.1.2 (dOk s.2), .dat (nat n), .any, .any]) ((a, b), sts) E (xi_range (xd_len (xd_at (xd_var rfl) xd_int rfl) (List.length_map _)) (by omega)) ⟨ok, hn⟩ (.refl _) (fun _ _ _ _ => trivial) (fun m hm => gok_name) (fun G m s σ H hm is E => ?_) (fun s σ H is E => ?_)
      · obtain ⟨⟨a, b⟩, sts⟩ := s
        obtain ⟨ok, hn⟩ : StOk SS sts ∧ n < sts.length := is
        have hx := at_getD ((0, 0) : St2) hn
        generalize sts.getD n (0, 0) = st at hx
        have hst : st ∈ SS := ok.2 st (List.mem_of_getElem? hx)
        have hs := stp_at hm
        have hs2 : stp g m ∈ g.steps := List.mem_of_getElem? hs
        refine s_when E (xt_B (xd_call (D := D_l_can) (xa_d (xd_var rfl) (xa_d (d := encSt st) (xd_atL (xr_lst rfl) (xd_var rfl) (getmap hx)) (xa_d (xd_var rfl) xa_nil))) ⟨_, _, _, _, rfl, hs, S.at_ hm, rfl⟩)) (fun hb H e E => ?_) (fun hb H e E => ?_)
        · obtain ⟨_, hbeh⟩ := hG.2 st hst _ hs2 hb
          refine q_set E (d := encSt (behM (stp g m) st)) (xd_call (D := D_l_behind) (xa_d (xd_var rfl) (xa_d (d := encSt st) (xd_atL (xr_lst rfl) (xd_var rfl) (getmap hx)) (xa_d (xd_var rfl) xa_nil))) ⟨_, _, _, _, rfl, hs, S.S.at_ hm, rfl⟩) fun σ H e E => ?_
          generalize behM (stp g m) st = nw at hbeh E
          have hlen := ok.len
          refine s_when E (xt_dni (st := nw) (sts := sts) rfl (xd_var rfl)) (fun hb H e E => ?_) (fun hb H e E => ?_)
          · have hni : nw ∉ sts := fun z => by
              rw [decide_eq_true z] at hb
              cases hb
            refine q_dput E rfl rfl hni (show sts.length < 100000 by omega) fun H E => ?_
            refine s_app E rfl (xd_var rfl) (show (sts.map encSt).length < 100000 by rw [List.length_map]; omega) fun H E => ⟨((a, b), sts ++ [nw]), ⟨ok.more hni hbeh, ?_⟩, ?_⟩
            · show n < (sts ++ [nw]).length
              rw [List.length_append]
              omega
            · rw [List.map_append]
              exact E.wk (.same (.same (.same (.same (.drop (.drop .nil))))))
          · exact ⟨((a, b), sts), ⟨ok, hn⟩, E.wk (.same (.same (.same (.same (.drop (.drop .nil))))))⟩
        · exact ⟨((a, b), sts), ⟨ok, hn⟩, E.wk (.same (.same (.same (.same (.drop (.drop .nil))))))⟩
      · obtain ⟨⟨a, b⟩, sts⟩ := s
        obtain ⟨ok, hn2⟩ : StOk SS sts ∧ n < sts.length := is
        have hlen := ok.len
        refine s_set E (xd_addN (xd_var rfl) xd_int) fun σ H e E => ⟨((a, b), sts, n + 1), ⟨⟨ok, hn2⟩, ?_⟩, E.wk (.same (.same (.same (.same (.drop (.drop .nil))))))⟩
        show SS.length - (n + 1) < SS.length - n
        omega
    · obtain ⟨⟨a, b⟩, sts, n⟩ := s
      obtain ⟨ok, hle⟩ : StOk SS sts ∧ n ≤ sts.length := is
      have hlen := ok.len
      refine s_retV E rfl fun v H' e t => k v H' e ⟨_, ⟨sts, rfl, by omega⟩, t⟩
end

end Q3

namespace Q3
open PySem L2 Evl
/-! ## good graphs -/
structure GoodG (B L : Nat) (g : Gr) : Prop where
  sp : ∀ s ∈ g.steps, s.tk.Nodup ∧ s.tk.length ≤ L ∧ s.fl.length ≤ L ∧ (∀ x ∈ s.tk, x < B) ∧ (∀ x ∈ s.fl, x < B) ∧ s.w < g.wires.length
  mm : ∀ x, g.marks.testBit x = true → x < B
  wl : g.wires.length ≤ 10
  sl : g.steps.length ≤ 1000
  cd : g.code < 2 ^ g.wires.length
  set : ∃ SS, SS.length ≤ 10000 ∧ InG g SS
theorem GoodG.mono {B B' L L' : Nat} {g : Gr} (h : GoodG B L g) (hB : B ≤ B') (hL : L ≤ L') : GoodG B' L' g where
  sp := fun s hs => by
    obtain ⟨h1, h2, h3, h4, h5, h6⟩ := h.sp s hs
    exact ⟨h1, Nat.le_trans h2 hL, Nat.le_trans h3 hL, fun x hx => Nat.lt_of_lt_of_le (h4 x hx) hB, fun x hx => Nat.lt_of_lt_of_le (h5 x hx) hB, h6⟩
  mm := fun x hx => Nat.lt_of_lt_of_le (h.mm x hx) hB
  wl := h.wl
  sl := h.sl
  cd := h.cd
  set := h.set
theorem GoodG.short {B L : Nat} {g : Gr} (h : GoodG B L g) (hB : B ≤ 1000000) (hL : L ≤ 1000) : ShortG g := by
  refine ⟨⟨fun s hs => ?_, h.sl⟩, fun s hs => ?_⟩
  · obtain ⟨h1, h2, h3, h4, h5, h6⟩ := h.sp s hs
    have := h.wl
    exact ⟨⟨fun x hx => Nat.lt_of_lt_of_le (h4 x hx) hB, fun x hx => Nat.lt_of_lt_of_le (h5 x hx) hB, by omega, h1⟩, h6⟩
  · obtain ⟨h1, h2, _⟩ := h.sp s hs
    omega
/-- a step taken out -/
def cutG (g : Gr) (k : Nat) : Gr := ⟨g.wires, g.steps.take k ++ g.steps.drop (k + 1), g.marks, g.code⟩
theorem cut_sub {g : Gr} {k : Nat} {s : Stp} (h : s ∈ (cutG g k).steps) : s ∈ g.steps := by
  rcases List.mem_append.mp h with h | h
  · exact List.mem_of_mem_take h
  · exact List.mem_of_mem_drop h
theorem GoodG.cut {B L : Nat} {g : Gr} (h : GoodG B L g) (k : Nat) : GoodG B L (cutG g k) where
  sp := fun s hs => h.sp s (cut_sub hs)
  mm := h.mm
  wl := h.wl
  sl := by
    have := h.sl
    show (g.steps.take k ++ g.steps.drop (k + 1)).length ≤ 1000
    rw [List.length_append, List.length_take, List.length_drop]
    omega
  cd := h.cd
  set := by
    obtain ⟨SS, h1, h2, h3⟩ := h.set
    exact ⟨SS, h1, h2, fun st hst s hs hc => h3 st hst s (cut_sub hs) hc⟩
/-! ### a wire put in -/
theorem wide_bit (c a i : Nat) (up : Bool) : (wideC c a up).testBit i = if i < a then c.testBit i else if i = a then up else c.testBit (i - 1) := by
  unfold wideC
  rw [Nat.testBit_or, Nat.testBit_or, Nat.testBit_and, Nat.one_shiftLeft, Nat.testBit_two_pow_sub_one, Nat.testBit_shiftLeft, Nat.testBit_shiftLeft, Nat.testBit_shiftRight]
  by_cases h1 : i < a
  · rw [if_pos h1, decide_eq_true h1, decide_eq_false (show ¬ a ≤ i by omega), decide_eq_false (show ¬ a + 1 ≤ i by omega)]
    simp
  · rw [if_neg h1, decide_eq_false h1]
    by_cases h2 : i = a
    · subst h2
      rw [if_pos rfl, decide_eq_false (show ¬ i + 1 ≤ i by omega), Nat.sub_self]
      cases up <;> simp
    · rw [if_neg h2, decide_eq_true (show a + 1 ≤ i by omega), show a + (i - (a + 1)) = i - 1 by omega]
      have h3 : (if up = true then 1 else 0 : Nat).testBit (i - a) = false := by
        cases up
        · simp
        · show Nat.testBit 1 (i - a) = false
          rw [show (1 : Nat) = 2 ^ 0 from rfl, Nat.testBit_two_pow]
          exact decide_eq_false (by omega)
      rw [h3]
      simp
def wideW (a w : Nat) : Nat := w + (if decide (a ≤ w) then 1 else 0)
theorem wideW_lt {a w : Nat} (h : w < a) : wideW a w = w := by
  unfold wideW
  rw [decide_eq_false (by omega)]
  rfl
theorem wideW_ge {a w : Nat} (h : a ≤ w) : wideW a w = w + 1 := by
  unfold wideW
  rw [decide_eq_true h]
  rfl
theorem wide_at (c a w : Nat) (up : Bool) : (wideC c a up).testBit (wideW a w) = c.testBit w := by
  rw [wide_bit]
  by_cases h : w < a
  · rw [wideW_lt h, if_pos h]
  · rw [wideW_ge (by omega), if_neg (by omega), if_neg (by omega)]
    rfl
theorem bit_xor (c w i : Nat) : (c ^^^ 1 <<< w).testBit i = (c.testBit i ^^ decide (w = i)) := by
  rw [Nat.testBit_xor, Nat.one_shiftLeft, Nat.testBit_two_pow]
theorem wide_xor (c a w : Nat) (up : Bool) : wideC (c ^^^ 1 <<< w) a up = wideC c a up ^^^ 1 <<< wideW a w := by
  refine Nat.eq_of_testBit_eq fun i => ?_
  rw [bit_xor, wide_bit, wide_bit, bit_xor, bit_xor]
  by_cases h1 : i < a
  · rw [if_pos h1, if_pos h1]
    congr 1
    by_cases h : w < a
    · rw [wideW_lt h]
    · rw [wideW_ge (by omega), decide_eq_false (by omega), decide_eq_false (by omega)]
  · rw [if_neg h1, if_neg h1]
    by_cases h2 : i = a
    · rw [if_pos h2, if_pos h2]
      have : ¬ wideW a w = i := by
        by_cases h : w < a
        · rw [wideW_lt h]
          omega
        · rw [wideW_ge (by omega)]
          omega
      rw [decide_eq_false this, Bool.xor_false]
    · rw [if_neg h2, if_neg h2]
      congr 1
      by_cases h : w < a
      · rw [wideW_lt h, decide_eq_false (by omega), decide_eq_false (by omega)]
      · rw [wideW_ge (by omega)]
        by_cases e : w = i - 1
        · rw [decide_eq_true e, decide_eq_true (by omega)]
        · rw [decide_eq_false e, decide_eq_false (by omega)]
theorem lev_bit (c w : Nat) : lev c w = c.testBit w := tb c w
theorem lt_of_bits {c n : Nat} (h : ∀ i, c.testBit i = true → i < n) : c < 2 ^ n := by
  refine Nat.lt_pow_two_of_testBit c fun i hi => ?_
  cases z : c.testBit i with
  | false => rfl
  | true =>
    have := h i z
    omega
theorem bit_lt {c n i : Nat} (h : c < 2 ^ n) (hb : c.testBit i = true) : i < n := by
  by_cases z : i < n
  · exact z
  · have := Nat.testBit_lt_two_pow (Nat.lt_of_lt_of_le h (Nat.pow_le_pow_right (by decide) (show n ≤ i by omega)))
    rw [this] at hb
    cases hb
theorem GoodG.wide {B L : Nat} {g : Gr} (h : GoodG B L g) {a : Nat} (kind word : Str) (up : Bool) (ha : a ≤ g.wires.length) (hl : g.wires.length < 10) : GoodG B L (wideM g a kind up word) where
  sp := fun s hs => by
    obtain ⟨s0, h0, rfl⟩ := List.mem_map.mp hs
    obtain ⟨h1, h2, h3, h4, h5, h6⟩ := h.sp s0 h0
    refine ⟨h1, h2, h3, h4, h5, ?_⟩
    show wideW a s0.w < (g.wires.take a ++ [(word, kind)] ++ g.wires.drop a).length
    rw [List.length_append, List.length_append, List.length_take, List.length_drop, List.length_singleton]
    have : wideW a s0.w ≤ s0.w + 1 := by
      by_cases z : s0.w < a
      · rw [wideW_lt z]
        omega
      · rw [wideW_ge (by omega)]
        omega
    omega
  mm := h.mm
  wl := by
    show (g.wires.take a ++ [(word, kind)] ++ g.wires.drop a).length ≤ 10
    rw [List.length_append, List.length_append, List.length_take, List.length_drop, List.length_singleton]
    omega
  sl := by
    show (g.steps.map (wideS a)).length ≤ 1000
    rw [List.length_map]
    exact h.sl
  cd := by
    show wideC g.code a up < 2 ^ (g.wires.take a ++ [(word, kind)] ++ g.wires.drop a).length
    refine lt_of_bits fun i hi => ?_
    rw [List.length_append, List.length_append, List.length_take, List.length_drop, List.length_singleton]
    rw [wide_bit] at hi
    by_cases h1 : i < a
    · omega
    · rw [if_neg h1] at hi
      by_cases h2 : i = a
      · omega
      · rw [if_neg h2] at hi
        have := bit_lt h.cd hi
        omega
  set := by
    obtain ⟨SS, h1, h2, h3⟩ := h.set
    refine ⟨SS.map fun st => (st.1, wideC st.2 a up), by rw [List.length_map]; exact h1, List.mem_map.mpr ⟨_, h2, rfl⟩, fun st hst s hs hc => ?_⟩
    obtain ⟨st0, hst0, rfl⟩ := List.mem_map.mp hst
    obtain ⟨s0, hs0, rfl⟩ := List.mem_map.mp hs
    obtain ⟨⟨h4, h5⟩, h6⟩ := h3 st0 hst0 s0 hs0 hc
    refine ⟨⟨?_, h5⟩, List.mem_map.mpr ⟨_, h6, ?_⟩⟩
    · show lev (wideC st0.2 a up) (wideW a s0.w) ≠ s0.up
      rw [lev_bit, wide_at, ← lev_bit]
      exact h4
    · show (_, wideC (st0.2 ^^^ 1 <<< s0.w) a up) = (_, wideC st0.2 a up ^^^ 1 <<< wideW a s0.w)
      rw [wide_xor]
      rfl
/-! ### lookers -/
theorem ors_bit (l : List Nat) (b i : Nat) : (orsM l b).testBit i = (b.testBit i || decide (i ∈ l)) := or_bits l b i
theorem there_bit {g : Gr} {i : Nat} : ∀ m, m ≤ g.steps.length → ((thereM g m).testBit i = true ↔ g.marks.testBit i = true ∨ ∃ s ∈ g.steps.take m, i ∈ s.tk ++ s.fl)
  | 0, _ => by
    unfold thereM
    simp
  | m + 1, hm => by
    have hx : g.steps[m]? = some g.steps[m] := List.getElem?_eq_getElem hm
    rw [there_more hx, ors_bit, Bool.or_eq_true, there_bit m (by omega), filt_take hx, decide_eq_true_iff]
    constructor
    · rintro ((h | ⟨s, hs, h⟩) | h)
      · exact .inl h
      · exact .inr ⟨s, List.mem_append_left _ hs, h⟩
      · exact .inr ⟨_, List.mem_append_right _ (List.mem_singleton.mpr rfl), h⟩
    · rintro (h | ⟨s, hs, h⟩)
      · exact .inl (.inl h)
      · rcases List.mem_append.mp hs with hs | hs
        · exact .inl (.inr ⟨s, hs, h⟩)
        · rw [List.mem_singleton.mp hs] at h
          exact .inr h
theorem free_many {t : Nat} (h : ∀ i, t.testBit i = true → i < 43) : 3 ≤ (freeM t).length := by
  unfold freeM
  have e : List.range 64 = List.range 43 ++ (List.range 21).map (· + 43) := by decide
  rw [e, List.filter_append, List.length_append]
  have z : (((List.range 21).map (· + 43)).filter fun p => decide (t >>> p &&& 1 = 0)) = (List.range 21).map (· + 43) := by
    refine List.filter_eq_self.mpr fun x hx => ?_
    obtain ⟨y, hy, rfl⟩ := List.mem_map.mp hx
    show decide (t >>> (y + 43) &&& 1 = 0) = true
    rw [tb0]
    cases q : t.testBit (y + 43) with
    | false => rfl
    | true =>
      have := h _ q
      omega
  rw [z, List.length_map, List.length_range]
  omega
theorem free_bit {t p : Nat} (h : p ∈ freeM t) : t.testBit p = false := by
  have z := (List.mem_filter.mp h).2
  rw [tb0] at z
  cases q : t.testBit p with
  | false => rfl
  | true =>
    rw [q] at z
    cases z
theorem bits_cons (l : List Nat) (p i : Nat) : (bitsM (srt (l ++ [p]))).testBit i = ((bitsM l).testBit i || decide (i = p)) := by
  rw [bits_bit, bits_bit]
  have : i ∈ srt (l ++ [p]) ↔ i ∈ l ∨ i = p := by
    rw [(srt_perm _).mem_iff, List.mem_append, List.mem_singleton]
  by_cases h : i ∈ l ∨ i = p
  · rw [decide_eq_true (this.mpr h)]
    rcases h with h | h
    · rw [decide_eq_true h]
      rfl
    · rw [decide_eq_true h, Bool.or_true]
  · rw [decide_eq_false fun z => h (this.mp z), decide_eq_false fun z => h (.inl z), decide_eq_false fun z => h (.inr z)]
    rfl
def lookSt (p : Nat) (st : St2) : St2 := (st.1 ||| 1 <<< p, st.2)
theorem or_bit1 (m p i : Nat) : (m ||| 1 <<< p).testBit i = (m.testBit i || decide (p = i)) := by
  rw [Nat.testBit_or, one_bit]
theorem bits_no {l : List Nat} {p : Nat} (h : p ∉ l) : (bitsM l).testBit p = false := by
  rw [bits_bit]
  exact decide_eq_false h
/-- a step beside a mark that it may look at -/
theorem look_step {s s' : Stp} {p : Nat} {st : St2} (hw : s'.w = s.w) (hu : s'.up = s.up) (ht : p ∉ s.tk) (hf : p ∉ s.fl) (hm : st.1.testBit p = false)
    (hs : s' = s ∨ s' = ⟨s.w, s.up, srt (s.tk ++ [p]), srt (s.fl ++ [p])⟩) (hc : canM s' (lookSt p st).1 = true) :
    canM s st.1 = true ∧ (safe s st → safe s' (lookSt p st)) ∧ behM s' (lookSt p st) = lookSt p (behM s st) := by
  have c1 : canM s st.1 = true := by
    refine can_iff.mpr fun x hx => ?_
    have hx' : x ∈ s'.tk := by
      rcases hs with rfl | rfl
      · exact hx
      · exact (srt_perm _).mem_iff.mpr (List.mem_append_left _ hx)
    have z := can_iff.mp hc x hx'
    have ne : ¬ p = x := fun e => ht (e ▸ hx)
    rw [show (lookSt p st).1 = st.1 ||| 1 <<< p from rfl, or_bit1, decide_eq_false ne, Bool.or_false] at z
    exact z
  refine ⟨c1, fun ⟨h1, h2⟩ => ⟨by rw [hw, hu]; exact h1, ?_⟩, ?_⟩
  · refine Nat.eq_of_testBit_eq fun i => ?_
    have z := congrArg (fun n => n.testBit i) h2
    simp only [Nat.testBit_and, Nat.testBit_xor, Nat.zero_testBit] at z
    rw [Nat.testBit_and, Nat.testBit_xor, Nat.zero_testBit, show (lookSt p st).1 = st.1 ||| 1 <<< p from rfl, or_bit1]
    by_cases e : p = i
    · subst e
      rcases hs with rfl | rfl
      · rw [bits_no hf, Bool.and_false]
      · rw [bits_cons, bits_cons, bits_no ht, hm]
        simp
    · have e2 : ¬ i = p := fun q => e q.symm
      rcases hs with rfl | rfl
      · rw [decide_eq_false e, Bool.or_false]
        exact z
      · rw [bits_cons, bits_cons, decide_eq_false e, decide_eq_false e2, Bool.or_false, Bool.or_false, Bool.or_false]
        exact z
  · refine Prod.ext ?_ (by
      show st.2 ^^^ 1 <<< s'.w = st.2 ^^^ 1 <<< s.w
      rw [hw])
    refine Nat.eq_of_testBit_eq fun i => ?_
    show (((st.1 ||| 1 <<< p) ^^^ bitsM s'.tk) ||| bitsM s'.fl).testBit i = (((st.1 ^^^ bitsM s.tk) ||| bitsM s.fl) ||| 1 <<< p).testBit i
    rw [or_bit1, Nat.testBit_or, Nat.testBit_xor, or_bit1, Nat.testBit_or, Nat.testBit_xor]
    by_cases e : p = i
    · subst e
      rcases hs with rfl | rfl
      · rw [bits_no hf, bits_no ht, hm]
        simp
      · rw [bits_cons, bits_cons, bits_no ht, hm]
        simp
    · have e2 : ¬ i = p := fun q => e q.symm
      rcases hs with rfl | rfl
      · rw [decide_eq_false e, Bool.or_false, Bool.or_false]
      · rw [bits_cons, bits_cons, decide_eq_false e, decide_eq_false e2, Bool.or_false, Bool.or_false, Bool.or_false, Bool.or_false]
theorem GoodG.free {g : Gr} {L c : Nat} (h : GoodG 43 L g) : c % 3 < (freeM (thereM g g.steps.length)).length := by
  have z := free_many (t := thereM g g.steps.length) fun i hi => by
    rcases (there_bit _ (Nat.le_refl _)).mp hi with q | ⟨s, hs, q⟩
    · exact h.mm i q
    · rw [List.take_length] at hs
      obtain ⟨_, _, _, h4, h5, _⟩ := h.sp s hs
      rcases List.mem_append.mp q with q | q
      · exact h4 i q
      · exact h5 i q
  have := Nat.mod_lt c (show 0 < 3 by decide)
  omega
theorem look_mem {g : Gr} {c : Nat} {s' : Stp} (h : s' ∈ (lookM g c).steps) : ∃ s ∈ g.steps, s' = s ∨ s' = ⟨s.w, s.up, srt (s.tk ++ [lookP g c]), srt (s.fl ++ [lookP g c])⟩ := by
  obtain ⟨k, hk, rfl⟩ := List.mem_map.mp h
  refine ⟨stp g k, List.mem_of_getElem? (stp_at (List.mem_range.mp hk)), ?_⟩
  unfold lookS
  split
  · exact .inr rfl
  · exact .inl rfl
theorem GoodG.look {g : Gr} {L : Nat} (h : GoodG 43 L g) (c : Nat) : GoodG 64 (L + 1) (lookM g c) := by
  have hf := h.free (c := c)
  have hp := List.mem_of_getElem? (at_getD 0 hf)
  have hp64 : lookP g c < 64 := free_le hp
  have hpb : (thereM g g.steps.length).testBit (lookP g c) = false := free_bit hp
  have hno : ∀ s ∈ g.steps, lookP g c ∉ s.tk ∧ lookP g c ∉ s.fl := fun s hs => by
    have z : ∀ q, lookP g c ∈ s.tk ++ s.fl → q := fun q hq => by
      have := (there_bit (g := g) (i := lookP g c) _ (Nat.le_refl _)).mpr (.inr ⟨s, by rw [List.take_length]; exact hs, hq⟩)
      rw [this] at hpb
      cases hpb
    exact ⟨fun q => z _ (List.mem_append_left _ q), fun q => z _ (List.mem_append_right _ q)⟩
  have hnm : ∀ i, g.marks.testBit i = true → i ≠ lookP g c := fun i hi e => by
    subst e
    have := (there_bit (g := g) (i := lookP g c) _ (Nat.le_refl _)).mpr (.inl hi)
    rw [this] at hpb
    cases hpb
  refine ⟨fun s' hs' => ?_, fun x hx => ?_, h.wl, ?_, h.cd, ?_⟩
  · obtain ⟨s, hs, q⟩ := look_mem hs'
    obtain ⟨h1, h2, h3, h4, h5, h6⟩ := h.sp s hs
    rcases q with rfl | rfl
    · exact ⟨h1, by omega, by omega, fun x hx => Nat.lt_trans (h4 x hx) (by decide), fun x hx => Nat.lt_trans (h5 x hx) (by decide), h6⟩
    · refine ⟨?_, ?_, ?_, fun x hx => ?_, fun x hx => ?_, h6⟩
      · refine (srt_perm _).nodup_iff.mpr (List.nodup_append.mpr ⟨h1, by simp, fun a ha b hb => ?_⟩)
        rw [List.mem_singleton.mp hb]
        exact fun e => (hno s hs).1 (by rw [← e]; exact ha)
      · show (srt (s.tk ++ [lookP g c])).length ≤ L + 1
        rw [(srt_perm _).length_eq, List.length_append]
        show s.tk.length + 1 ≤ L + 1
        omega
      · show (srt (s.fl ++ [lookP g c])).length ≤ L + 1
        rw [(srt_perm _).length_eq, List.length_append]
        show s.fl.length + 1 ≤ L + 1
        omega
      · rcases List.mem_append.mp ((srt_perm _).mem_iff.mp hx) with q | q
        · exact Nat.lt_trans (h4 x q) (by decide)
        · rw [List.mem_singleton.mp q]
          exact hp64
      · rcases List.mem_append.mp ((srt_perm _).mem_iff.mp hx) with q | q
        · exact Nat.lt_trans (h5 x q) (by decide)
        · rw [List.mem_singleton.mp q]
          exact hp64
  · have hx' : (g.marks ||| 1 <<< lookP g c).testBit x = true := hx
    rw [or_bit1, Bool.or_eq_true] at hx'
    rcases hx' with q | q
    · exact Nat.lt_trans (h.mm x q) (by decide)
    · rw [← of_decide_eq_true q]
      exact hp64
  · show ((List.range g.steps.length).map _).length ≤ 1000
    rw [List.length_map, List.length_range]
    exact h.sl
  · obtain ⟨SS, h1, h2, h3⟩ := h.set
    refine ⟨(SS.filter fun st => !st.1.testBit (lookP g c)).map (lookSt (lookP g c)), ?_, List.mem_map.mpr ⟨(g.marks, g.code), List.mem_filter.mpr ⟨h2, ?_⟩, rfl⟩, fun st hst s' hs' hc => ?_⟩
    · rw [List.length_map]
      exact Nat.le_trans (List.length_filter_le _ _) h1
    · show (!g.marks.testBit (lookP g c)) = true
      cases q : g.marks.testBit (lookP g c) with
      | false => rfl
      | true => exact absurd rfl (hnm _ q)
    · obtain ⟨st0, hst0, rfl⟩ := List.mem_map.mp hst
      obtain ⟨hs0, hb0⟩ := List.mem_filter.mp hst0
      have hb : st0.1.testBit (lookP g c) = false := by
        cases q : st0.1.testBit (lookP g c) with
        | false => rfl
        | true =>
          rw [q] at hb0
          cases hb0
      obtain ⟨s, hs, q⟩ := look_mem hs'
      obtain ⟨n1, n2⟩ := hno s hs
      have hw : s'.w = s.w := by rcases q with rfl | rfl <;> rfl
      have hu : s'.up = s.up := by rcases q with rfl | rfl <;> rfl
      obtain ⟨c1, c2, c3⟩ := look_step hw hu n1 n2 hb q hc
      obtain ⟨h4, h5⟩ := h3 st0 hs0 s hs c1
      refine ⟨c2 h4, ?_⟩
      rw [c3]
      refine List.mem_map.mpr ⟨_, List.mem_filter.mpr ⟨h5, ?_⟩, rfl⟩
      show (!((st0.1 ^^^ bitsM s.tk) ||| bitsM s.fl).testBit (lookP g c)) = true
      rw [Nat.testBit_or, Nat.testBit_xor, bits_no n1, bits_no n2, hb]
      rfl

end Q3

namespace Q3
open PySem L2 Evl
/-! ## drawing: choice -/
def IsGood (B L W : Nat) (d : PyData) : Prop := ∃ g : Gr, d = encG g ∧ GoodG B L g ∧ 1 ≤ g.wires.length ∧ g.wires.length ≤ W ∧ 2 ≤ g.steps.length
def D_l_choice : List SD → Res → Prop := fun as R => ∃ (is : List Int) (first : Nat), as = [.rdl (is.map .int), .dat (nat first)] ∧ R = RQ (IsGood 43 12 5)
abbrev Deed := Nat × Bool
def encDd (d : Deed) : PyData := .tuple [nat d.1, .bool d.2]
/-- the code behind some deeds, from 0 -/
def runD (l : List Deed) : Nat := l.foldl (fun c d => c ^^^ 1 <<< d.1) 0
def deedAt (W : Nat) (ds : List Deed) (m : Nat) : Bool := decide ((ds.getD m (0, false)).1 < W) && ((ds.getD m (0, false)).2 == !(runD (ds.take m)).testBit (ds.getD m (0, false)).1)
def deedsOk (W : Nat) (ds : List Deed) : Bool := (List.range ds.length).all (deedAt W ds) && runD ds == 0
def bothM (least own c : Nat) : List Deed := ((List.range own).map fun j => (least + (c + j) % own, true)) ++ (List.range own).map fun j => (least + (c / 2 + j) % own, false)
def insD (l : List Deed) (n : Nat) (x : Deed) : List Deed := l.take n ++ [x] ++ l.drop n
def deedsM (least own c k : Nat) : List Deed := [(k % least, true)] ++ insD (bothM least own c) (c / 4 % ((bothM least own c).length + 1)) (k % least, false)
theorem both_len (least own c : Nat) : (bothM least own c).length = own + own := by
  unfold bothM
  rw [List.length_append, List.length_map, List.length_map, List.length_range]
theorem deeds_len (least own c k : Nat) : (deedsM least own c k).length = own + own + 2 := by
  unfold deedsM insD
  rw [List.length_append, List.length_append, List.length_append, List.length_take, List.length_drop, both_len, List.length_singleton, List.length_singleton]
  omega
def bothB (least own a b : Nat) : List Deed := ((List.range own).map fun j => (least + (a + j) % own, true)) ++ (List.range own).map fun j => (least + (b + j) % own, false)
def deedsB (least own a b p x : Nat) : List Deed := [(x, true)] ++ insD (bothB least own a b) p (x, false)
theorem deeds_few (least own c k : Nat) : deedsM least own c k = deedsB least own (c % own) (c / 2 % own) (c / 4 % (own + own + 1)) (k % least) := by
  have e : bothM least own c = bothB least own (c % own) (c / 2 % own) := by
    unfold bothM bothB
    have h : ∀ y j : Nat, (y % own + j) % own = (y + j) % own := fun y j => by rw [Nat.mod_add_mod]
    simp only [h]
  unfold deedsM deedsB
  rw [both_len, e]
def deedsTry (least own a b p x : Nat) : Bool := !(decide (0 < least) && decide (0 < own) && decide (a < own) && decide (b < own) && decide (p < own + own + 1) && decide (x < least)) || deedsOk (least + own) (deedsB least own a b p x)
theorem deeds_all : ((List.range 4).all fun least => (List.range 3).all fun own => (List.range 2).all fun a => (List.range 2).all fun b => (List.range 5).all fun p => (List.range 3).all fun x => deedsTry least own a b p x) = true := by decide +kernel
theorem all_rg {n : Nat} {f : Nat → Bool} (h : (List.range n).all f = true) {k : Nat} (hk : k < n) : f k = true := List.all_eq_true.mp h k (List.mem_range.mpr hk)
theorem deeds_one {least own a b p x : Nat} (g1 : 0 < least) (g2 : 0 < own) (g3 : a < own) (g4 : b < own) (g5 : p < own + own + 1) (g6 : x < least) (h1 : least < 4) (h2 : own < 3) : deedsOk (least + own) (deedsB least own a b p x) = true := by
  have z := all_rg (all_rg (all_rg (all_rg (all_rg (all_rg deeds_all h1) h2) (k := a) (by omega)) (k := b) (by omega)) (k := p) (by omega)) (k := x) (by omega)
  unfold deedsTry at z
  rw [decide_eq_true g1, decide_eq_true g2, decide_eq_true g3, decide_eq_true g4, decide_eq_true g5, decide_eq_true g6] at z
  exact z
theorem deeds_ok {least own c k : Nat} (h1 : 0 < least) (h2 : least < 4) (h3 : 0 < own) (h4 : own < 3) : deedsOk (least + own) (deedsM least own c k) = true := by
  rw [deeds_few]
  have a1 := Nat.mod_lt c h3
  have a2 := Nat.mod_lt (c / 2) h3
  have a3 := Nat.mod_lt (c / 4) (show 0 < own + own + 1 by omega)
  have a4 := Nat.mod_lt k h1
  exact deeds_one h1 h3 a1 a2 a3 a4 h2 h4
/-- steps that hand one token on; cs: the code at each spot -/
structure ChI (W : Nat) (ss : List Stp) (n : Nat) (cs : Nat → Nat) : Prop where
  z : cs 0 = 0
  n0 : 0 < n
  st : ∀ s ∈ ss, ∃ x y, s.tk = [x] ∧ s.fl = [y] ∧ x < n ∧ y < n ∧ s.w < W ∧ s.up = !(cs x).testBit s.w ∧ cs y = cs x ^^^ 1 <<< s.w
theorem ChI.more {W n : Nat} {ss : List Stp} {cs : Nat → Nat} (h : ChI W ss n cs) {w x : Nat} {up : Bool} (hx : x < n) (hw : w < W) (hu : up = !(cs x).testBit w) :
    ChI W (ss ++ [⟨w, up, [x], [n]⟩]) (n + 1) (fun z => if z = n then cs x ^^^ 1 <<< w else cs z) := by
  have n0 := h.n0
  refine ⟨?_, Nat.succ_pos _, fun s hs => ?_⟩
  · show (if 0 = n then _ else cs 0) = 0
    rw [if_neg (by omega)]
    exact h.z
  · rcases List.mem_append.mp hs with hs | hs
    · obtain ⟨a, b, h1, h2, h3, h4, h5, h6, h7⟩ := h.st s hs
      refine ⟨a, b, h1, h2, by omega, by omega, h5, ?_, ?_⟩
      · show s.up = !(if a = n then _ else cs a).testBit s.w
        rw [if_neg (by omega)]
        exact h6
      · show (if b = n then _ else cs b) = (if a = n then _ else cs a) ^^^ _
        rw [if_neg (by omega), if_neg (by omega)]
        exact h7
    · rw [List.mem_singleton.mp hs]
      refine ⟨x, n, rfl, rfl, by omega, Nat.lt_succ_self n, hw, ?_, ?_⟩
      · show up = !(if x = n then _ else cs x).testBit w
        rw [if_neg (by omega)]
        exact hu
      · show (if n = n then _ else cs n) = (if x = n then _ else cs x) ^^^ _
        rw [if_pos rfl, if_neg (by omega)]
theorem ChI.close {W n : Nat} {ss : List Stp} {cs : Nat → Nat} (h : ChI W ss n cs) {w x : Nat} {up : Bool} (hx : x < n) (hw : w < W) (hu : up = !(cs x).testBit w) (hz : cs x ^^^ 1 <<< w = 0) :
    ChI W (ss ++ [⟨w, up, [x], [0]⟩]) (n + 1) cs := by
  refine ⟨h.z, Nat.succ_pos _, fun s hs => ?_⟩
  rcases List.mem_append.mp hs with hs | hs
  · obtain ⟨a, b, h1, h2, h3, h4, h5, h6, h7⟩ := h.st s hs
    exact ⟨a, b, h1, h2, by omega, by omega, h5, h6, h7⟩
  · rw [List.mem_singleton.mp hs]
    exact ⟨x, 0, rfl, rfl, by omega, Nat.succ_pos _, hw, hu, by rw [h.z, hz]⟩
theorem bits_one (x i : Nat) : (bitsM [x]).testBit i = decide (x = i) := by
  rw [bits_bit]
  by_cases e : x = i
  · rw [decide_eq_true e, decide_eq_true (by rw [e]; exact List.mem_singleton.mpr rfl)]
  · rw [decide_eq_false e, decide_eq_false (fun q => e (List.mem_singleton.mp q).symm)]
theorem ChI.good {W n : Nat} {ss : List Stp} {cs : Nat → Nat} (h : ChI W ss n cs) {wires : List (Str × Str)} (hW : wires.length = W) (hW1 : W ≤ 10) (hn : n ≤ 43) (hl : ss.length ≤ 1000) : GoodG 43 12 ⟨wires, ss, 1, 0⟩ where
  sp := fun s hs => by
    obtain ⟨a, b, h1, h2, h3, h4, h5, h6, h7⟩ := h.st s hs
    refine ⟨by rw [h1]; simp, by rw [h1]; exact (show 1 ≤ 12 by decide), by rw [h2]; exact (show 1 ≤ 12 by decide), fun x hx => ?_, fun x hx => ?_, by rw [hW]; exact h5⟩
    · rw [h1] at hx
      rw [List.mem_singleton.mp hx]
      omega
    · rw [h2] at hx
      rw [List.mem_singleton.mp hx]
      omega
  mm := fun x hx => by
    have hx' : (1 <<< 0 : Nat).testBit x = true := hx
    rw [one_bit] at hx'
    have := of_decide_eq_true hx'
    omega
  wl := by
    show wires.length ≤ 10
    omega
  sl := hl
  cd := Nat.two_pow_pos _
  set := by
    refine ⟨(List.range n).map fun x => (1 <<< x, cs x), by rw [List.length_map, List.length_range]; omega, List.mem_map.mpr ⟨0, List.mem_range.mpr h.n0, by rw [h.z]; rfl⟩, fun st hst s hs hc => ?_⟩
    obtain ⟨z, hz, rfl⟩ := List.mem_map.mp hst
    obtain ⟨a, b, h1, h2, h3, h4, h5, h6, h7⟩ := h.st s hs
    have ea : z = a := by
      have q := can_iff.mp hc a (by rw [h1]; exact List.mem_singleton.mpr rfl)
      rw [show ((1 <<< z, cs z) : St2).1 = 1 <<< z from rfl, one_bit] at q
      exact of_decide_eq_true q
    subst ea
    have hx0 : (1 <<< z ^^^ bitsM s.tk) = 0 := by
      refine Nat.eq_of_testBit_eq fun i => ?_
      rw [h1, Nat.testBit_xor, bits_one, one_bit, Nat.zero_testBit, Bool.xor_self]
    refine ⟨⟨?_, ?_⟩, List.mem_map.mpr ⟨b, List.mem_range.mpr h4, ?_⟩⟩
    · show lev (cs z) s.w ≠ s.up
      rw [lev_bit, h6]
      cases (cs z).testBit s.w <;> decide
    · show (1 <<< z ^^^ bitsM s.tk) &&& bitsM s.fl = 0
      rw [hx0, Nat.zero_and]
    · refine Prod.ext ?_ h7
      show 1 <<< b = (1 <<< z ^^^ bitsM s.tk) ||| bitsM s.fl
      rw [hx0, Nat.zero_or, h2]
      refine Nat.eq_of_testBit_eq fun i => ?_
      rw [bits_one, one_bit]
theorem xl_catW {K : PySem.W.Frag} {Γ : List SD} {ta : TE} {ds es : List PyData} {j : Nat} {b : Addr} (ha : Xl K ta Γ ds) (hb : Γ[j]? = some (.lst b es)) (hl : ds.length + es.length ≤ 100000) : Xl K (tOp rCat ta (tVar j)) Γ (ds ++ es) := fun He H σ G E Q q =>
  ha He H σ G E _ fun a xs H2 e2 n2 l2 t2 => by
    rcases (E.mono e2).at_ j _ hb with z | ⟨v, hv, ev, _, ys, l3, t3⟩
    · cases z
    · subst ev
      exact ⟨_, hv, a, b, xs, ys, rfl, rfl, l2, l3, sz_of (by rw [t2.length, t3.length]; exact hl), fun p hp => q _ _ _ (e2.trans (Ex.new hp)) (fresh_back e2 hp) upd_same ((t2.append t3).ex (Ex.new hp))⟩
def leastM (h : Nat) : Nat := if h / 4 % 2 = 0 then 2 + h % 2 else 1
theorem least_pos (h : Nat) : 0 < leastM h := by
  unfold leastM
  split <;> omega
theorem least_lt (h : Nat) : leastM h < 4 := by
  unfold leastM
  split <;> omega
theorem least_at (h : Nat) : [nat (2 + h % 2), nat 1][h / 4 % 2]? = some (nat (leastM h)) := by
  unfold leastM
  rcases (show h / 4 % 2 = 0 ∨ h / 4 % 2 = 1 by omega) with e | e
  · rw [e]
    rfl
  · rw [e]
    rfl
theorem runD_more {ds : List Deed} {m : Nat} {d : Deed} (h : ds[m]? = some d) : runD (ds.take (m + 1)) = runD (ds.take m) ^^^ 1 <<< d.1 := by
  unfold runD
  rw [filt_take h, List.foldl_append]
  rfl
theorem deeds_at {W : Nat} {ds : List Deed} (h : deedsOk W ds = true) {m : Nat} {d : Deed} (hd : ds[m]? = some d) : d.1 < W ∧ d.2 = !(runD (ds.take m)).testBit d.1 := by
  unfold deedsOk at h
  rw [Bool.and_eq_true] at h
  have hm : m < ds.length := (List.getElem?_eq_some_iff.mp hd).1
  have z := List.all_eq_true.mp h.1 m (List.mem_range.mpr hm)
  unfold deedAt at z
  rw [getD_of _ hd, Bool.and_eq_true] at z
  exact ⟨of_decide_eq_true z.1, eq_of_beq z.2⟩
theorem deeds_end {W : Nat} {ds : List Deed} (h : deedsOk W ds = true) : runD ds = 0 := by
  unfold deedsOk at h
  rw [Bool.and_eq_true] at h
  exact eq_of_beq h.2
/-- the walk through one deed list: what holds before the m-th deed -/
def ChW (W : Nat) (ds : List Deed) (m : Nat) (ss : List Stp) (last n : Nat) : Prop := ∃ cs, ChI W ss n cs ∧ (m < ds.length → last < n ∧ cs last = runD (ds.take m))
section
variable {P : Program} {w : World} {K : PySem.W.Frag} {mg : Str → Option Value} {base : Heap} {C : Addr} {f : Nat → Addr} {fd : Nat → FuncData} {xc : Nat → Addr}
theorem ok_l_choice (T : Top K mg C f fd xc) : FnOk P w K mg base CX0 2 (f 26) (fd 26) ["_law_script", "_law_first"] (spG K D_l_choice) := by
  refine Fun.pure T.l_choice.F sc_l_choice (fun as R hD => ?_) (by decide) fun cdv A outer s H E hr => ⟨_, (pss_cons (ps_set (i := 2) sc_l_choice.nd rfl (Or.inr rfl) (pe_call (ok_l_mix T) (hr.mono (by decide)) (by rfl) T.l_mix.m T.l_mix.F.kp T.l_mix.b .nil pass0 (pa_cons (pv 0) (pa_cons (pv 1) pa_nil))))
  (pss_cons (ps_set (i := 3) sc_l_choice.nd rfl (Or.inl rfl) (pe_op op_add pe_int (pe_op op_mod (pv 2) pe_int)))
  (pss_cons (ps_set (i := 4) sc_l_choice.nd rfl (Or.inr rfl) (pe_op op_add pe_int (pe_op op_mod (pe_op op_fdiv (pv 2) pe_int) pe_int)))
  (pss_cons (ps_set (i := 5) sc_l_choice.nd rfl (Or.inr rfl) (pe_ix ix_list (pe_lst (pa_cons (pv 3) (pa_cons pe_int pa_nil))) (pe_op op_mod (pe_op op_fdiv (pv 2) pe_int) pe_int) (fun _ _ => rfl)))
  (pss_cons (ps_setLc (i := 6) (own := [("_law_k", 9)]) rfl sc_l_choice.nd rfl rfl (sw_true rfl rfl rfl (by decide +kernel)) (pi_range1 rfl T.n_range (pa_cons (pv 5) pa_nil)) (blkOk_by (own := [("_law_k", 9)]) (N := N_l_choice) (sc := defScope s_l_choice) (by decide +kernel)) (fun _ _ _ _ _ => (pg_name (i := 9) sc_l_choice.nd rfl (Or.inl rfl))) (fun _ _ _ _ _ => pts_nil) (fun _ _ _ _ _ => (pe_tup (pa_cons (pe_call (ok_l_word T) (hr.mono (by decide)) (by rfl) T.l_word.m T.l_word.F.kp T.l_word.b .nil pass0 (pa_cons (pe_op op_fdiv (pv 2) pe_int) (pa_cons (pv 9) pa_nil))) (pa_cons pe_str pa_nil)))))
  (pss_cons (ps_set (i := 6) sc_l_choice.nd rfl (Or.inl rfl) (pe_op op_cat (pv 6) (pe_lc (own := [("_law_k", 9)]) (by rfl) sc_l_choice.nd (pi_range1 rfl T.n_range (pa_cons (pv 4) pa_nil)) (blkOk_by (own := [("_law_k", 9)]) (N := N_l_choice) (sc := defScope s_l_choice) (by decide +kernel)) (fun _ _ _ _ _ => (pg_name (i := 9) sc_l_choice.nd rfl (Or.inl rfl))) (fun _ _ _ _ _ => pts_nil) (fun _ _ _ _ _ => (pe_tup (pa_cons (pe_call (ok_l_word T) (hr.mono (by decide)) (by rfl) T.l_word.m T.l_word.F.kp T.l_word.b .nil pass0 (pa_cons (pe_op op_fdiv (pv 2) pe_int) (pa_cons (pe_op op_add (pv 5) (pv 9)) pa_nil))) (pa_cons pe_str pa_nil)))))))
  (pss_cons (ps_set (i := 7) sc_l_choice.nd rfl (Or.inl rfl) (pe_lst pa_nil))
  (pss_cons (ps_set (i := 8) sc_l_choice.nd rfl (Or.inl rfl) pe_int)
  (pss_cons (ps_for PassesOwn.never rfl (pi_range1 rfl T.n_range (pa_cons (pv 3) pa_nil)) (pg_name (i := 9) sc_l_choice.nd rfl (Or.inl rfl))
  (pss_cons (ps_set (i := 10) sc_l_choice.nd rfl (Or.inr rfl) (pe_call (ok_l_mix T) (hr.mono (by decide)) (by rfl) T.l_mix.m T.l_mix.F.kp T.l_mix.b .nil pass0 (pa_cons (pv 0) (pa_cons (pe_op op_add (pe_op op_add (pv 1) pe_int) (pv 9)) pa_nil))))
  (pss_cons (ps_setLc (i := 11) (own := [("_law_j", 18)]) rfl sc_l_choice.nd rfl rfl (sw_true rfl rfl rfl (by decide +kernel)) (pi_range1 rfl T.n_range (pa_cons (pv 4) pa_nil)) (blkOk_by (own := [("_law_j", 18)]) (N := N_l_choice) (sc := defScope s_l_choice) (by decide +kernel)) (fun _ _ _ _ _ => (pg_name (i := 18) sc_l_choice.nd rfl (Or.inl rfl))) (fun _ _ _ _ _ => pts_nil) (fun _ _ _ _ _ => (pe_op op_add (pv 5) (pe_op op_mod (pe_op op_add (pv 10) (pv 18)) (pv 4)))))
  (pss_cons (ps_setLc (i := 12) (own := [("_law_j", 18)]) rfl sc_l_choice.nd rfl rfl (sw_true rfl rfl rfl (by decide +kernel)) (pi_range1 rfl T.n_range (pa_cons (pv 4) pa_nil)) (blkOk_by (own := [("_law_j", 18)]) (N := N_l_choice) (sc := defScope s_l_choice) (by decide +kernel)) (fun _ _ _ _ _ => (pg_name (i := 18) sc_l_choice.nd rfl (Or.inl rfl))) (fun _ _ _ _ _ => pts_nil) (fun _ _ _ _ _ => (pe_op op_add (pv 5) (pe_op op_mod (pe_op op_add (pe_op op_fdiv (pv 10) pe_int) (pv 18)) (pv 4)))))
  (pss_cons (ps_set (i := 13) sc_l_choice.nd rfl (Or.inl rfl) (pe_op op_cat (pe_lc (own := [("_law_wire", 19)]) (by rfl) sc_l_choice.nd (pi_list (pv 11)) (blkOk_by (own := [("_law_wire", 19)]) (N := N_l_choice) (sc := defScope s_l_choice) (by decide +kernel)) (fun _ _ _ _ _ => (pg_name (i := 19) sc_l_choice.nd rfl (Or.inl rfl))) (fun _ _ _ _ _ => pts_nil) (fun _ _ _ _ _ => (pe_tup (pa_cons (pv 19) (pa_cons pe_bl pa_nil))))) (pe_lc (own := [("_law_wire", 19)]) (by rfl) sc_l_choice.nd (pi_list (pv 12)) (blkOk_by (own := [("_law_wire", 19)]) (N := N_l_choice) (sc := defScope s_l_choice) (by decide +kernel)) (fun _ _ _ _ _ => (pg_name (i := 19) sc_l_choice.nd rfl (Or.inl rfl))) (fun _ _ _ _ _ => pts_nil) (fun _ _ _ _ _ => (pe_tup (pa_cons (pv 19) (pa_cons pe_bl pa_nil)))))))
  (pss_cons (ps_expr (pe_bm PySem.F.plainAttrs_list PySem.F.slot_list_insert PySem.F.type_list_insert mt_ins (pv 13) (pa_cons (pe_op op_mod (pe_op op_fdiv (pv 10) pe_int) (pe_op op_add (pe_callB call_len_seq (by rfl) T.n_len (by decide +kernel) (pa_cons (pv 13) pa_nil)) pe_int)) (pa_cons (pe_tup (pa_cons (pe_op op_mod (pv 9) (pv 5)) (pa_cons pe_bl pa_nil))) pa_nil))))
  (pss_cons (ps_set (i := 14) sc_l_choice.nd rfl (Or.inl rfl) pe_int)
  (pss_one (ps_for PassesOwn.never rfl (pi_enum (by rfl) T.n_enumerate (pa_cons (pe_op op_cat (pe_lst (pa_cons (pe_tup (pa_cons (pe_op op_mod (pv 9) (pv 5)) (pa_cons pe_bl pa_nil))) pa_nil)) (pv 13)) pa_nil)) (pg_tup rfl (pgs_cons (pg_name (i := 15) sc_l_choice.nd rfl (Or.inl rfl)) (pgs_cons (pg_name (i := 16) sc_l_choice.nd rfl (Or.inl rfl)) pgs_nil)))
  (pss_cons (ps_set (i := 17) sc_l_choice.nd rfl (Or.inl rfl) (pv 8))
  (pss_cut (ps_if (pt_cmpR op_eq (pv 15) (pe_callB call_len_seq (by rfl) T.n_len (by decide +kernel) (pa_cons (pv 13) pa_nil)) (nomark _)) (pss_one (ps_set (i := 17) sc_l_choice.nd rfl (Or.inl rfl) pe_int)) pss_nil)
  (pss_cons (ps_expr (pe_bm PySem.F.plainAttrs_list PySem.F.slot_list_append PySem.F.type_list_append mt_append (pv 7) (pa_cons (pe_tup (pa_cons (pe_ix ix_tup (pv 16) pe_int (fun _ _ => rfl)) (pa_cons (pe_ix ix_tup (pv 16) pe_int (fun _ _ => rfl)) (pa_cons (pe_tup (pa_cons (pv 14) pa_nil)) (pa_cons (pe_tup (pa_cons (pv 17) pa_nil)) pa_nil))))) pa_nil)))
  (pss_cons (ps_set (i := 14) sc_l_choice.nd rfl (Or.inl rfl) (pv 17))
  (pss_one (ps_set (i := 8) sc_l_choice.nd rfl (Or.inl rfl) (pe_op op_add (pv 8) pe_int))))))))))))))))
  (pss_one (ps_ret (pe_tup (pa_cons (pe_callTy call_tuple_of (by rfl) T.n_tuple (by decide +kernel) (pa_cons (pv 6) pa_nil)) (pa_cons (pe_callTy call_tuple_of (by rfl) T.n_tuple (by decide +kernel) (pa_cons (pv 7) pa_nil)) (pa_cons pe_int (pa_cons pe_int pa_nil)))))))))))))))), fun as R hD He σ Q E k => ?_⟩
  · obtain ⟨is, first, rfl, _⟩ := hD
    rfl
  · obtain ⟨is, first, rfl, rfl⟩ := hD
    refine q_set E (xd_call (D := D_l_mix) (xa_r (xr_rdl rfl) (xa_d (xd_var rfl) xa_nil)) ⟨_, _, rfl, rfl⟩) fun σ H e E => ?_
    generalize mixM is first = hd at E
    refine q_set E (xd_addN xd_int (xd_modN (xd_var rfl) xd_int (by decide))) fun σ H e E => ?_
    refine q_set E (xd_addN xd_int (xd_modN (xd_divN (xd_var rfl) xd_int (by decide)) xd_int (by decide))) fun σ H e E => ?_
    refine q_set E (d := nat (leastM hd)) (xd_atL (xr_new (xl_lst (xs_cons (xd_var rfl) (xs_cons xd_int xs_nil)) lenk)) (xd_modN (xd_divN (xd_var rfl) xd_int (by decide)) xd_int (by decide)) (least_at hd)) fun σ H e E => ?_
    have h1 := least_pos hd
    have h2 := least_lt hd
    have E2 : Q3.Env K He H σ [.rdl (is.map .int), .dat (nat first), .dat (nat hd), .dat (nat (2 + hd % 2)), .dat (nat (1 + hd / 2 % 2)), .dat (nat (leastM hd)), .any, .any, .any, .any, .any, .any, .any, .any, .any, .any, .any, .any, .any, .any] [] :=
      E.wk (.same (.same (.same (.same (.same (.same (.drop (.drop (.drop (.drop (.drop (.drop (.drop (.drop (.drop (.drop (.drop (.drop (.drop (.drop .nil))))))))))))))))))))
    clear E
    generalize leastM hd = least at h1 h2 E2
    have h3 : 0 < 1 + hd / 2 % 2 := by omega
    have h4 : 1 + hd / 2 % 2 < 3 := by omega
    generalize 1 + hd / 2 % 2 = own at h3 h4 E2
    have h5 : 2 ≤ 2 + hd % 2 := by omega
    have h6 : 2 + hd % 2 ≤ 3 := by omega
    generalize 2 + hd % 2 = many at h5 h6 E2
    refine q_setL E2 (ds := ((List.range least).map fun k => ((wordM (hd / 8) k, "given") : Str × Str)).map encW) (xl_is (xl_lcAll (l := List.range least) (fun k => encW (wordM (hd / 8) k, "given")) (xi_range (xd_var rfl) (by omega)) (List.length_range).symm (by rw [List.length_range]; omega) trivial fun m x hx => (by
      obtain ⟨hm, e0⟩ := range_at hx
      subst e0
      exact ⟨_, _, gok_name, by decide, (xd_tup (xs_cons (xd_call (D := D_l_word) (xa_d (xd_divN (xd_var rfl) xd_int (by decide)) (xa_d (xd_var rfl) xa_nil)) ⟨_, _, rfl, by omega, rfl⟩) (xs_cons xd_str xs_nil)) lenk)⟩)) (by
      rw [List.map_map]
      rfl)) fun a σ H e E => ?_
    refine q_setL E (ds := (((List.range least).map fun k => ((wordM (hd / 8) k, "given") : Str × Str)) ++ (List.range own).map fun k => ((wordM (hd / 8) (least + k), "made") : Str × Str)).map encW) (xl_is (xl_catV (es := ((List.range own).map fun k => ((wordM (hd / 8) (least + k), "made") : Str × Str)).map encW) rfl (xl_is (xl_lcAll (l := List.range own) (fun k => encW (wordM (hd / 8) (least + k), "made")) (xi_range (xd_var rfl) (by omega)) (List.length_range).symm (by rw [List.length_range]; omega) trivial fun m x hx => (by
      obtain ⟨hm, e0⟩ := range_at hx
      subst e0
      exact ⟨_, _, gok_name, by decide, (xd_tup (xs_cons (xd_call (D := D_l_word) (xa_d (xd_divN (xd_var rfl) xd_int (by decide)) (xa_d (xd_addN (xd_var rfl) (xd_var rfl)) xa_nil)) ⟨_, _, rfl, by omega, rfl⟩) (xs_cons xd_str xs_nil)) lenk)⟩)) (by
      rw [List.map_map]
      rfl)) (by
      simp only [List.length_map, List.length_range]
      omega)) (by rw [List.map_append])) fun a σ H e E => ?_
    have hwl : (((List.range least).map fun k => ((wordM (hd / 8) k, "given") : Str × Str)) ++ (List.range own).map fun k => ((wordM (hd / 8) (least + k), "made") : Str × Str)).length = least + own := by
      rw [List.length_append, List.length_map, List.length_map, List.length_range, List.length_range]
    generalize (((List.range least).map fun k => ((wordM (hd / 8) k, "given") : Str × Str)) ++ (List.range own).map fun k => ((wordM (hd / 8) (least + k), "made") : Str × Str)) = wires at hwl E
    refine q_setL E (xl_lst xs_nil lenk) fun b σ H e E => ?_
    refine q_set E xd_int fun σ H e E => ?_
    have E3 : Q3.Env K He H σ [.rdl (is.map .int), .dat (nat first), .dat (nat hd), .dat (nat many), .dat (nat own), .dat (nat least), .lst a (wires.map encW), .lst b (([] : List Stp).map encS), .dat (nat 1), .any, .any, .any, .any, .any, .any, .any, .any, .any, .any, .any] [] :=
      E.wk (.same (.same (.same (.same (.same (.same (.same (.same (.same (.drop (.drop (.drop (.drop (.drop (.drop (.drop (.drop (.drop (.drop (.drop .nil))))))))))))))))))))
    clear E
    refine q_for (S := Addr × List Stp × Nat) (fun m s => (∃ cs, ChI (least + own) s.2.1 s.2.2 cs) ∧ s.2.2 = 1 + m * (own + own + 2) ∧ s.2.1.length = m * (own + own + 2)) (fun m s => [.rdl (is.map .int), .dat (nat first), .dat (nat hd), .dat (nat many), .dat (nat own), .dat (nat least), .lst a (wires.map encW), .lst s.1 (s.2.1.map encS), .dat (nat s.2.2), .any, .any, .any, .any, .any, .any, .any, .any, .any, .any, .any]) (b, [], 1) E3 (xi_range (xd_var rfl) (by omega)) ⟨⟨fun _ => 0, rfl, Nat.one_pos, fun _ h => nomatch h⟩, by simp, by simp⟩ (.refl _) (fun _ _ _ _ => trivial) (fun m hm => gok_name) (fun G m s σ H hm is_ E => ?_) (fun s σ H is_ E => ?_)
    · obtain ⟨b, ss, n⟩ := s
      obtain ⟨⟨cs0, hcs⟩, hn, hsl⟩ : (∃ cs, ChI (least + own) ss n cs) ∧ n = 1 + m * (own + own + 2) ∧ ss.length = m * (own + own + 2) := is_
      refine q_set E (xd_call (D := D_l_mix) (xa_r (xr_rdl rfl) (xa_d (xd_addN (xd_addN (xd_var rfl) xd_int) (xd_var rfl)) xa_nil)) ⟨_, _, rfl, rfl⟩) fun σ H e E => ?_
      generalize mixM is (first + 1 + m) = c at E
      have E4 : Q3.Env K He H σ [.rdl (is.map .int), .dat (nat first), .dat (nat hd), .dat (nat many), .dat (nat own), .dat (nat least), .lst a (wires.map encW), .lst b (ss.map encS), .dat (nat n), .dat (nat m), .dat (nat c), .any, .any, .any, .any, .any, .any, .any, .any, .any] G :=
        E.wk (.same (.same (.same (.same (.same (.same (.same (.same (.same (.same (.same (.drop (.drop (.drop (.drop (.drop (.drop (.drop (.drop (.drop .nil))))))))))))))))))))
      clear E
      refine q_setL E4 (ds := ((List.range own).map fun j => least + (c + j) % own).map nat) (xl_is (xl_lcAll (l := List.range own) (fun j => nat (least + (c + j) % own)) (xi_range (xd_var rfl) (by omega)) (List.length_range).symm (by rw [List.length_range]; omega) trivial fun m x hx => (by
        obtain ⟨hm, e0⟩ := range_at hx
        subst e0
        exact ⟨_, _, gok_name, by decide, (xd_addN (xd_var rfl) (xd_modN (xd_addN (xd_var rfl) (xd_var rfl)) (xd_var rfl) h3))⟩)) (by
        rw [List.map_map]
        rfl)) fun p σ H e E => ?_
      refine q_setL E (ds := ((List.range own).map fun j => least + (c / 2 + j) % own).map nat) (xl_is (xl_lcAll (l := List.range own) (fun j => nat (least + (c / 2 + j) % own)) (xi_range (xd_var rfl) (by omega)) (List.length_range).symm (by rw [List.length_range]; omega) trivial fun m x hx => (by
        obtain ⟨hm, e0⟩ := range_at hx
        subst e0
        exact ⟨_, _, gok_name, by decide, (xd_addN (xd_var rfl) (xd_modN (xd_addN (xd_divN (xd_var rfl) xd_int (by decide)) (xd_var rfl)) (xd_var rfl) h3))⟩)) (by
        rw [List.map_map]
        rfl)) fun q σ H e E => ?_
      have hbl := both_len least own c
      refine q_setL E (ds := (bothM least own c).map encDd) (xl_is (xl_cat (xl_lcAll (l := (List.range own).map fun j => least + (c + j) % own) (fun w => encDd (w, true)) (xi_encO (enc := nat) 0 rfl) rfl (by rw [List.length_map, List.length_range]; omega) rfl fun m x hx => ⟨_, _, gok_name, by decide, (by
        rw [getD_of _ hx]
        exact xd_tup (xs_cons (xd_var rfl) (xs_cons xd_bl xs_nil)) lenk)⟩) (xl_lcAll (l := (List.range own).map fun j => least + (c / 2 + j) % own) (fun w => encDd (w, false)) (xi_encO (enc := nat) 0 rfl) rfl (by rw [List.length_map, List.length_range]; omega) rfl fun m x hx => ⟨_, _, gok_name, by decide, (by
        rw [getD_of _ hx]
        exact xd_tup (xs_cons (xd_var rfl) (xs_cons xd_bl xs_nil)) lenk)⟩) (by
        simp only [List.length_map, List.length_range]
        omega)) (by
        unfold bothM
        simp only [List.map_append, List.map_map]
        rfl)) fun bo σ H e E => ?_
      have hok := deeds_ok (c := c) (k := m) h1 h2 h3 h4
      have hdl := deeds_len least own c m
      unfold deedsM at hok hdl
      generalize bothM least own c = both at hbl hok hdl E
      have hml := Nat.mod_lt m h1
      have E5 : Q3.Env K He H σ [.rdl (is.map .int), .dat (nat first), .dat (nat hd), .dat (nat many), .dat (nat own), .dat (nat least), .lst a (wires.map encW), .lst b (ss.map encS), .dat (nat n), .dat (nat m), .dat (nat c), .any, .any, .lst bo (both.map encDd), .any, .any, .any, .any, .any, .any] G :=
        E.wk (.same (.same (.same (.same (.same (.same (.same (.same (.same (.same (.same (.drop (.drop (.same (.drop (.drop (.drop (.drop (.drop (.drop .nil))))))))))))))))))))
      clear E
      have hpl := Nat.mod_lt (c / 4) (show 0 < both.length + 1 by omega)
      refine q_ins E5 rfl (xd_modN (xd_divN (xd_var rfl) xd_int (by decide)) (xd_addN (xd_lenL (xr_lst rfl) (List.length_map _)) xd_int) (Nat.succ_pos _)) (d := encDd (m % least, false)) (xd_tup (xs_cons (xd_modN (xd_var rfl) (xd_var rfl) h1) (xs_cons xd_bl xs_nil)) lenk) (by rw [List.length_map]; omega) (by
        show c / 4 % (both.length + 1) ≤ 100000
        omega) fun H E => ?_
      have ei : (both.map encDd).take (c / 4 % (both.length + 1)) ++ [encDd (m % least, false)] ++ (both.map encDd).drop (c / 4 % (both.length + 1)) = (insD both (c / 4 % (both.length + 1)) (m % least, false)).map encDd := by
        unfold insD
        rw [List.map_append, List.map_append, List.map_take, List.map_drop]
        rfl
      rw [ei] at E
      generalize insD both (c / 4 % (both.length + 1)) (m % least, false) = bt at hok hdl E
      have hbt : bt.length = own + own + 1 := by
        rw [List.length_append, List.length_singleton] at hdl
        omega
      refine q_set E xd_int fun σ H e E => ?_
      have E6 : Q3.Env K He H σ [.rdl (is.map .int), .dat (nat first), .dat (nat hd), .dat (nat many), .dat (nat own), .dat (nat least), .lst a (wires.map encW), .lst b (ss.map encS), .dat (nat n), .dat (nat m), .dat (nat c), .any, .any, .lst bo (bt.map encDd), .dat (nat 0), .any, .any, .any, .any, .any] G :=
        E.wk (.same (.same (.same (.same (.same (.same (.same (.same (.same (.same (.same (.drop (.drop (.same (.same (.drop (.drop (.drop (.drop (.drop .nil))))))))))))))))))))
      clear E
      generalize hds : [(m % least, true)] ++ bt = ds at hok hdl
      have hW : (own + own + 2) * m ≤ (own + own + 2) * 2 := Nat.mul_le_mul_left _ (by omega)
      have hW2 : (own + own + 2) * 2 ≤ 12 := by omega
      have hcm : m * (own + own + 2) = (own + own + 2) * m := Nat.mul_comm _ _
      refine s_for (S := Addr × List Stp × Nat × Nat) (fun j s => ChW (least + own) ds j s.2.1 s.2.2.1 s.2.2.2 ∧ s.2.2.2 = n + j ∧ s.2.1.length = ss.length + j) (fun j s => [.rdl (is.map .int), .dat (nat first), .dat (nat hd), .dat (nat many), .dat (nat own), .dat (nat least), .lst a (wires.map encW), .lst s.1 (s.2.1.map encS), .dat (nat s.2.2.2), .dat (nat m), .dat (nat c), .any, .any, .lst bo (bt.map encDd), .dat (nat s.2.2.1), .any, .any, .any, .any, .any]) (b, ss, 0, n) E6 (xi_enumEN (l := ds) (enc := encDd) (0, false) (xl_is (xl_catW (xl_lst (xs_cons (d := encDd (m % least, true)) (xd_tup (xs_cons (xd_modN (xd_var rfl) (xd_var rfl) h1) (xs_cons xd_bl xs_nil)) lenk) xs_nil) lenk) rfl (by
          rw [List.length_map]
          show 1 + bt.length ≤ 100000
          omega)) (by
          rw [← hds, List.map_append]
          rfl))) ⟨⟨cs0, hcs, fun _ => ⟨hcs.n0, hcs.z⟩⟩, rfl, rfl⟩ (.refl _) (fun _ _ _ _ => trivial) (fun j hj => gok2) (fun G j s σ H hj js_ E => ?_) (fun s σ H js_ E => ?_)
      · obtain ⟨b, ss2, last, n2⟩ := s
        obtain ⟨⟨cs, hc2, hlast⟩, hn2, hs2⟩ : ChW (least + own) ds j ss2 last n2 ∧ n2 = n + j ∧ ss2.length = ss.length + j := js_
        have hx := at_getD ((0, false) : Deed) hj
        generalize ds.getD j (0, false) = dd at hx E
        obtain ⟨g1, g2⟩ := deeds_at hok hx
        obtain ⟨l1, l2⟩ := hlast hj
        rw [← l2] at g2
        refine q_set E (xd_var rfl) fun σ H e E => ?_
        refine q_cut (S := Unit) E (fun _ => True) (fun _ => [.rdl (is.map .int), .dat (nat first), .dat (nat hd), .dat (nat many), .dat (nat own), .dat (nat least), .lst a (wires.map encW), .lst b (ss2.map encS), .dat (nat n2), .dat (nat m), .dat (nat c), .any, .any, .lst bo (bt.map encDd), .dat (nat last), .dat (nat j), .dat (encDd dd), .dat (nat (if j = bt.length then 0 else n2)), .any, .any]) ?_ ?_
        · refine s_when E (xt_test (xd_eqN (xd_var rfl) (xd_lenL (xr_lst rfl) (List.length_map _)))) (fun hb H e E => ?_) (fun hb H e E => ?_)
          · refine s_set E xd_int fun σ H e E => ⟨(), trivial, ?_⟩
            rw [if_pos (of_decide_eq_true hb)]
            exact E.wk (.same (.same (.same (.same (.same (.same (.same (.same (.same (.same (.same (.same (.same (.same (.same (.same (.same (.same (.same (.same .nil))))))))))))))))))))
          · refine ⟨(), trivial, ?_⟩
            rw [if_neg (of_decide_eq_false hb)]
            exact E.wk (.same (.same (.same (.same (.same (.same (.same (.same (.same (.same (.same (.same (.same (.same (.same (.same (.same (.same (.same (.same .nil))))))))))))))))))))
        · rintro _ σ H _ E
          generalize hfl : (if j = bt.length then 0 else n2) = fill at E
          refine q_app E rfl (d := encS ⟨dd.1, dd.2, [last], [fill]⟩) (xd_tup (xs_cons (xd_at (xd_var (d := encDd dd) rfl) xd_int rfl) (xs_cons (xd_at (xd_var (d := encDd dd) rfl) xd_int rfl) (xs_cons (xd_tup (xs_cons (xd_var rfl) xs_nil) lenk) (xs_cons (xd_tup (xs_cons (xd_var rfl) xs_nil) lenk) xs_nil)))) lenk) (by
            show (ss2.map encS).length < 100000
            rw [List.length_map]
            omega) fun H E => ?_
          refine q_set E (xd_var rfl) fun σ H e E => ?_
          refine s_set E (xd_addN (xd_var rfl) xd_int) fun σ H e E => ⟨(b, ss2 ++ [⟨dd.1, dd.2, [last], [fill]⟩], fill, n2 + 1), ⟨?_, ?_, ?_⟩, ?_⟩
          · by_cases hj2 : j = bt.length
            · rw [if_pos hj2] at hfl
              subst hfl
              have he := deeds_end hok
              have ht : ds.take (j + 1) = ds := List.take_of_length_le (by omega)
              have hz : cs last ^^^ 1 <<< dd.1 = 0 := by
                rw [l2, ← runD_more hx, ht, he]
              exact ⟨cs, hc2.close l1 g1 g2 hz, fun hlt => by omega⟩
            · rw [if_neg hj2] at hfl
              subst hfl
              refine ⟨_, hc2.more l1 g1 g2, fun hlt => ⟨Nat.lt_succ_self _, ?_⟩⟩
              show (if n2 = n2 then _ else _) = _
              rw [if_pos rfl, l2, runD_more hx]
          · show n2 + 1 = n + (j + 1)
            omega
          · show (ss2 ++ [_]).length = ss.length + (j + 1)
            rw [List.length_append, List.length_singleton]
            omega
          · rw [List.map_append]
            exact E.wk (.same (.same (.same (.same (.same (.same (.same (.same (.same (.same (.same (.same (.same (.same (.same (.drop (.drop (.drop (.drop (.drop .nil))))))))))))))))))))
      · obtain ⟨b, ss2, last, n2⟩ := s
        obtain ⟨⟨cs, hc2, _⟩, hn2, hs2⟩ : ChW (least + own) ds ds.length ss2 last n2 ∧ n2 = n + ds.length ∧ ss2.length = ss.length + ds.length := js_
        refine ⟨(b, ss2, n2), ⟨⟨cs, hc2⟩, ?_, ?_⟩, E.wk (.same (.same (.same (.same (.same (.same (.same (.same (.same (.drop (.drop (.drop (.drop (.drop (.drop (.drop (.drop (.drop (.drop (.drop .nil))))))))))))))))))))⟩
        · show n2 = 1 + (m + 1) * (own + own + 2)
          rw [Nat.add_mul, hn2, hn, hdl]
          omega
        · show ss2.length = (m + 1) * (own + own + 2)
          rw [Nat.add_mul, hs2, hsl, hdl]
          omega
    · obtain ⟨b, ss, n⟩ := s
      obtain ⟨⟨cs0, hcs⟩, hn, hsl⟩ : (∃ cs, ChI (least + own) ss n cs) ∧ n = 1 + many * (own + own + 2) ∧ ss.length = many * (own + own + 2) := is_
      have hW : many * (own + own + 2) ≤ 3 * 6 := Nat.mul_le_mul h6 (by omega)
      have hW2 : 2 * 4 ≤ many * (own + own + 2) := Nat.mul_le_mul h5 (by omega)
      refine s_ret E (d := encG ⟨wires, ss, 1, 0⟩) (xd_tup (xs_cons (xd_tupOf (xr_lst rfl)) (xs_cons (xd_tupOf (xr_lst rfl)) (xs_cons xd_int (xs_cons xd_int xs_nil)))) lenk) fun v H' e t => k v H' e ⟨_, ⟨_, rfl, hcs.good hwl (by omega) (by omega) (by omega), ?_, ?_, ?_⟩, t⟩
      · show 1 ≤ wires.length
        omega
      · show wires.length ≤ 5
        omega
      · show 2 ≤ ss.length
        omega
end

end Q3

namespace Q3
open PySem L2 Evl
/-! ## a drawn graph, plainly -/
def tkQ (p : PrI) (s d : Nat) : List Nat := (if p.2 = d then [s] else []) ++ (if p.1 = d then [s + 1] else [])
def flQ (p : PrI) (s d : Nat) : List Nat := (if p.1 = d then [s] else []) ++ (if p.2 = d then [s + 1] else [])
def tkR : List PrI → Nat → Nat → List Nat
  | [], _, _ => []
  | p :: ps, s, d => tkQ p s d ++ tkR ps (s + 2) d
def flR : List PrI → Nat → Nat → List Nat
  | [], _, _ => []
  | p :: ps, s, d => flQ p s d ++ flR ps (s + 2) d
theorem tkR_snoc (p : PrI) (d : Nat) : ∀ (ps : List PrI) (s : Nat), tkR (ps ++ [p]) s d = tkR ps s d ++ tkQ p (s + 2 * ps.length) d
  | [], s => by simp [tkR]
  | q :: ps, s => by
    show tkQ q s d ++ tkR (ps ++ [p]) (s + 2) d = (tkQ q s d ++ tkR ps (s + 2) d) ++ _
    rw [tkR_snoc p d ps (s + 2), List.append_assoc, List.length_cons, show s + 2 + 2 * ps.length = s + 2 * (ps.length + 1) by omega]
theorem flR_snoc (p : PrI) (d : Nat) : ∀ (ps : List PrI) (s : Nat), flR (ps ++ [p]) s d = flR ps s d ++ flQ p (s + 2 * ps.length) d
  | [], s => by simp [flR]
  | q :: ps, s => by
    show flQ q s d ++ flR (ps ++ [p]) (s + 2) d = (flQ q s d ++ flR ps (s + 2) d) ++ _
    rw [flR_snoc p d ps (s + 2), List.append_assoc, List.length_cons, show s + 2 + 2 * ps.length = s + 2 * (ps.length + 1) by omega]
theorem mem_tkQ {p : PrI} {s d x : Nat} : x ∈ tkQ p s d ↔ (p.2 = d ∧ x = s) ∨ (p.1 = d ∧ x = s + 1) := by
  unfold tkQ
  by_cases h1 : p.2 = d <;> by_cases h2 : p.1 = d <;> simp [h1, h2]
theorem mem_flQ {p : PrI} {s d x : Nat} : x ∈ flQ p s d ↔ (p.1 = d ∧ x = s) ∨ (p.2 = d ∧ x = s + 1) := by
  unfold flQ
  by_cases h1 : p.2 = d <;> by_cases h2 : p.1 = d <;> simp [h1, h2]
theorem mem_tkR {d x : Nat} : ∀ {ps : List PrI} {s : Nat}, x ∈ tkR ps s d ↔ ∃ q p, ps[q]? = some p ∧ x ∈ tkQ p (s + 2 * q) d
  | [], s => by simp [tkR]
  | r :: ps, s => by
    show x ∈ tkQ r s d ++ tkR ps (s + 2) d ↔ _
    rw [List.mem_append, mem_tkR]
    constructor
    · rintro (h | ⟨q, p, h1, h2⟩)
      · exact ⟨0, r, rfl, h⟩
      · exact ⟨q + 1, p, h1, by rw [show s + 2 * (q + 1) = s + 2 + 2 * q by omega]; exact h2⟩
    · rintro ⟨q, p, h1, h2⟩
      cases q with
      | zero =>
        cases h1
        exact .inl h2
      | succ q => exact .inr ⟨q, p, h1, by rw [show s + 2 + 2 * q = s + 2 * (q + 1) by omega]; exact h2⟩
theorem mem_flR {d x : Nat} : ∀ {ps : List PrI} {s : Nat}, x ∈ flR ps s d ↔ ∃ q p, ps[q]? = some p ∧ x ∈ flQ p (s + 2 * q) d
  | [], s => by simp [flR]
  | r :: ps, s => by
    show x ∈ flQ r s d ++ flR ps (s + 2) d ↔ _
    rw [List.mem_append, mem_flR]
    constructor
    · rintro (h | ⟨q, p, h1, h2⟩)
      · exact ⟨0, r, rfl, h⟩
      · exact ⟨q + 1, p, h1, by rw [show s + 2 * (q + 1) = s + 2 + 2 * q by omega]; exact h2⟩
    · rintro ⟨q, p, h1, h2⟩
      cases q with
      | zero =>
        cases h1
        exact .inl h2
      | succ q => exact .inr ⟨q, p, h1, by rw [show s + 2 + 2 * q = s + 2 * (q + 1) by omega]; exact h2⟩
theorem tkQ_len {p : PrI} {s d : Nat} (h : p.1 ≠ p.2) : (tkQ p s d).length ≤ 1 ∧ (flQ p s d).length ≤ 1 := by
  unfold tkQ flQ
  by_cases h1 : p.2 = d <;> by_cases h2 : p.1 = d <;> simp [h1, h2]
  exact h (h2.trans h1.symm)
theorem tkR_len {d : Nat} : ∀ {ps : List PrI} {s : Nat}, (∀ p ∈ ps, p.1 ≠ p.2) → (tkR ps s d).length ≤ ps.length ∧ (flR ps s d).length ≤ ps.length
  | [], s, _ => ⟨Nat.le_refl 0, Nat.le_refl 0⟩
  | r :: ps, s, h => by
    obtain ⟨h1, h2⟩ := tkQ_len (s := s) (d := d) (h r List.mem_cons_self)
    obtain ⟨h3, h4⟩ := tkR_len (d := d) (ps := ps) (s := s + 2) fun p hp => h p (List.mem_cons_of_mem _ hp)
    constructor
    · show (tkQ r s d ++ tkR ps (s + 2) d).length ≤ _
      rw [List.length_append, List.length_cons]
      omega
    · show (flQ r s d ++ flR ps (s + 2) d).length ≤ _
      rw [List.length_append, List.length_cons]
      omega
theorem tkR_nd {d : Nat} : ∀ {ps : List PrI} {s : Nat}, (∀ p ∈ ps, p.1 ≠ p.2) → (tkR ps s d).Nodup
  | [], s, _ => List.nodup_nil
  | r :: ps, s, h => by
    have h1 := (tkQ_len (s := s) (d := d) (h r List.mem_cons_self)).1
    show (tkQ r s d ++ tkR ps (s + 2) d).Nodup
    refine List.nodup_append.mpr ⟨?_, tkR_nd fun p hp => h p (List.mem_cons_of_mem _ hp), fun a ha b hb => ?_⟩
    · match tkQ r s d, h1 with
      | [], _ => exact List.nodup_nil
      | [x], _ => simp
    · obtain ⟨q, p, _, hp⟩ := mem_tkR.mp hb
      rcases mem_tkQ.mp ha with ⟨_, e⟩ | ⟨_, e⟩ <;> rcases mem_tkQ.mp hp with ⟨_, f⟩ | ⟨_, f⟩ <;> omega
/-! ### the token of each pair: true, where it lies behind the first deed -/
def spotB (base : Nat) (b : List Bool) (q : Nat) : Nat := base + 2 * q + (if b.getD q false then 0 else 1)
def marksB (L base : Nat) (b : List Bool) : Nat := bitsM ((List.range L).map (spotB base b))
theorem marksB_bit {L base i : Nat} {b : List Bool} : (marksB L base b).testBit i = true ↔ ∃ q, q < L ∧ i = spotB base b q := by
  unfold marksB
  rw [bits_bit, decide_eq_true_iff, List.mem_map]
  constructor
  · rintro ⟨q, h1, h2⟩
    exact ⟨q, List.mem_range.mp h1, h2.symm⟩
  · rintro ⟨q, h1, h2⟩
    exact ⟨q, List.mem_range.mpr h1, h2.symm⟩
def codeB (n code : Nat) (qi : Nat → Nat) (b : List Bool) : Nat := (List.range n).foldl (fun c w => if b.getD (qi w) false then c ^^^ 1 <<< w else c) code
theorem codeB_bit (code : Nat) (qi : Nat → Nat) (b : List Bool) (i : Nat) : ∀ n, (codeB n code qi b).testBit i = (code.testBit i ^^ (decide (i < n) && b.getD (qi i) false))
  | 0 => by
    rw [decide_eq_false (by omega), Bool.false_and, Bool.xor_false]
    rfl
  | n + 1 => by
    have ih := codeB_bit code qi b i n
    have e : codeB (n + 1) code qi b = if b.getD (qi n) false then codeB n code qi b ^^^ 1 <<< n else codeB n code qi b := by
      unfold codeB
      rw [List.range_succ, List.foldl_append]
      rfl
    rw [e]
    by_cases hi : i = n
    · subst hi
      rw [decide_eq_false (show ¬ i < i by omega), Bool.false_and, Bool.xor_false] at ih
      rw [decide_eq_true (Nat.lt_succ_self i), Bool.true_and]
      cases h : b.getD (qi i) false with
      | true => rw [if_pos rfl, bit_xor, ih, decide_eq_true rfl]
      | false => rw [if_neg (by decide), ih, Bool.xor_false]
    · have e2 : decide (i < n + 1) = decide (i < n) := by
        by_cases z : i < n
        · rw [decide_eq_true z, decide_eq_true (by omega)]
        · rw [decide_eq_false z, decide_eq_false (by omega)]
      rw [e2, ← ih]
      cases h : b.getD (qi n) false with
      | true => rw [if_pos rfl, bit_xor, decide_eq_false (fun z => hi z.symm), Bool.xor_false]
      | false => rw [if_neg (by decide)]
def allB : Nat → List (List Bool)
  | 0 => [[]]
  | n + 1 => (allB n).map (false :: ·) ++ (allB n).map (true :: ·)
theorem allB_len : ∀ n, (allB n).length = 2 ^ n
  | 0 => rfl
  | n + 1 => by
    show ((allB n).map _ ++ (allB n).map _).length = _
    rw [List.length_append, List.length_map, List.length_map, allB_len n, Nat.pow_succ]
    omega
theorem allB_mem : ∀ b : List Bool, b ∈ allB b.length
  | [] => List.mem_singleton.mpr rfl
  | x :: b => by
    show x :: b ∈ (allB b.length).map _ ++ (allB b.length).map _
    cases x
    · exact List.mem_append_left _ (List.mem_map.mpr ⟨b, allB_mem b, rfl⟩)
    · exact List.mem_append_right _ (List.mem_map.mpr ⟨b, allB_mem b, rfl⟩)
/-- the deeds' places and the arrows between them -/
structure PairsOk (n : Nat) (order : List Nat) (ps : List PrI) (one two : Nat → Nat) : Prop where
  ol : order.length = 2 * n
  ow : ∀ w ∈ order, w < n
  nd : ps.Nodup
  pl : ps.length ≤ 11
  pb : ∀ p ∈ ps, p.1 < 2 * n ∧ p.2 < 2 * n ∧ p.1 ≠ p.2
  ot : ∀ w, w < n → one w < two w ∧ order[one w]? = some w ∧ order[two w]? = some w ∧ (∀ d, order[d]? = some w → d = one w ∨ d = two w) ∧ (one w, two w) ∈ ps
def seenM (order : List Nat) (code d : Nat) : Nat := (order.take d).foldl (fun c w => c ^^^ 1 <<< w) code
def deedS (order : List Nat) (ps : List PrI) (base code d : Nat) : Stp := ⟨order.getD d 0, decide (seenM order code d >>> order.getD d 0 &&& 1 = 0), srt (tkR ps base d), srt (flR ps base d)⟩
theorem seen_bit (code w : Nat) : ∀ (l : List Nat), (l.foldl (fun c w => c ^^^ 1 <<< w) code).testBit w = (code.testBit w ^^ decide (l.count w % 2 = 1)) := by
  intro l
  induction l generalizing code with
  | nil => simp
  | cons x l ih =>
    rw [List.foldl_cons, ih, bit_xor, List.count_cons]
    by_cases e : x = w
    · subst e
      rw [decide_eq_true rfl, beq_self_eq_true, if_pos rfl]
      rcases (show List.count x l % 2 = 0 ∨ List.count x l % 2 = 1 by omega) with h | h
      · rw [decide_eq_false (show ¬ List.count x l % 2 = 1 by omega), decide_eq_true (show (List.count x l + 1) % 2 = 1 by omega)]
        simp
      · rw [decide_eq_true h, decide_eq_false (show ¬ (List.count x l + 1) % 2 = 1 by omega)]
        simp
    · have e2 : (x == w) = false := beq_eq_false_iff_ne.mpr e
      rw [decide_eq_false e, e2, if_neg (by decide), Bool.xor_false, Nat.add_zero]
theorem count_take {l : List Nat} {w : Nat} (d : Nat) : (∀ e, e < d → l[e]? ≠ some w) → (l.take d).count w = 0 := fun h => by
  refine List.count_eq_zero.mpr fun hm => ?_
  obtain ⟨e, he⟩ := List.mem_iff_getElem?.mp hm
  rw [List.getElem?_take] at he
  split at he
  · rename_i hlt
    exact h e hlt he
  · cases he
section
variable {n code base : Nat} {order : List Nat} {ps : List PrI} {one two : Nat → Nat}
theorem PairsOk.seen1 (h : PairsOk n order ps one two) {w : Nat} (hw : w < n) : (seenM order code (one w)).testBit w = code.testBit w := by
  obtain ⟨h1, h2, h3, h4, _⟩ := h.ot w hw
  unfold seenM
  rw [seen_bit, count_take (one w) fun e he z => by
    rcases h4 e z with q | q <;> omega]
  simp
theorem PairsOk.seen2 (h : PairsOk n order ps one two) {w : Nat} (hw : w < n) : (seenM order code (two w)).testBit w = !code.testBit w := by
  obtain ⟨h1, h2, h3, h4, _⟩ := h.ot w hw
  have c1 : (order.take (two w)).count w = 1 := by
    have e : order.take (two w) = order.take (one w) ++ (w :: (order.take (two w)).drop (one w + 1)) := by
      have z := (List.take_append_drop (one w) (order.take (two w))).symm
      rw [List.take_take, Nat.min_eq_left (by omega)] at z
      have hl : one w < (order.take (two w)).length := by
        have := (List.getElem?_eq_some_iff.mp h3).1
        rw [List.length_take]
        omega
      rw [List.drop_eq_getElem_cons hl] at z
      have hg : (order.take (two w))[one w] = w := by
        have q : (order.take (two w))[one w]? = some w := by
          rw [List.getElem?_take, if_pos h1]
          exact h2
        exact (List.getElem?_eq_some_iff.mp q).2
      rw [hg] at z
      exact z
    rw [e, List.count_append, List.count_cons, count_take (one w) fun e he z => by
      rcases h4 e z with q | q <;> omega]
    have c2 : List.count w ((order.take (two w)).drop (one w + 1)) = 0 := by
      refine List.count_eq_zero.mpr fun hm => ?_
      obtain ⟨e, he⟩ := List.mem_iff_getElem?.mp hm
      rw [List.getElem?_drop, List.getElem?_take] at he
      split at he
      · rcases h4 _ he with q | q <;> omega
      · cases he
    rw [c2, beq_self_eq_true, if_pos rfl]
  unfold seenM
  rw [seen_bit, c1]
  simp
/-- what a deed that can be done says of the tokens -/
theorem tok_of {d : Nat} {b : List Bool} (hc : canM (deedS order ps base code d) (marksB ps.length base b) = true) {q : Nat} {p : PrI} (hq : ps[q]? = some p) : (p.1 = d → b.getD q false = false) ∧ (p.2 = d → b.getD q false = true) := by
  have key : ∀ x, x ∈ tkQ p (base + 2 * q) d → ∃ r, r < ps.length ∧ x = spotB base b r := fun x hx => marksB_bit.mp (can_iff.mp hc x ((srt_perm _).mem_iff.mpr (mem_tkR.mpr ⟨q, p, hq, hx⟩)))
  constructor
  · intro h
    obtain ⟨r, _, e⟩ := key _ (mem_tkQ.mpr (.inr ⟨h, rfl⟩))
    unfold spotB at e
    cases z : b.getD r false with
    | true =>
      rw [z, if_pos rfl] at e
      omega
    | false =>
      rw [z, if_neg (by decide)] at e
      have : r = q := by omega
      rw [← this]
      exact z
  · intro h
    obtain ⟨r, _, e⟩ := key _ (mem_tkQ.mpr (.inl ⟨h, rfl⟩))
    unfold spotB at e
    cases z : b.getD r false with
    | true =>
      rw [z, if_pos rfl] at e
      have : r = q := by omega
      rw [← this]
      exact z
    | false =>
      rw [z, if_neg (by decide)] at e
      omega
/-- the tokens behind the deed d -/
def flipB (ps : List PrI) (d : Nat) (b : List Bool) : List Bool := (List.range ps.length).map fun q => if (ps.getD q (0, 0)).1 = d ∨ (ps.getD q (0, 0)).2 = d then !b.getD q false else b.getD q false
theorem flip_at {d q : Nat} {b : List Bool} {p : PrI} (hq : ps[q]? = some p) : (flipB ps d b).getD q false = if p.1 = d ∨ p.2 = d then !b.getD q false else b.getD q false := by
  have hl : q < ps.length := (List.getElem?_eq_some_iff.mp hq).1
  have e : (flipB ps d b)[q]? = some (if p.1 = d ∨ p.2 = d then !b.getD q false else b.getD q false) := by
    unfold flipB
    rw [List.getElem?_map, List.getElem?_range hl, Option.map_some, getD_of _ hq]
  exact getD_of _ e
theorem flip_1 {d q : Nat} {b : List Bool} {p : PrI} (hq : ps[q]? = some p) (g : p.1 = d) (t : b.getD q false = false) : (flipB ps d b).getD q false = true := by
  rw [flip_at hq, if_pos (Or.inl g), t]
  rfl
theorem flip_2 {d q : Nat} {b : List Bool} {p : PrI} (hq : ps[q]? = some p) (g : p.2 = d) (t : b.getD q false = true) : (flipB ps d b).getD q false = false := by
  rw [flip_at hq, if_pos (Or.inr g), t]
  rfl
theorem flip_0 {d q : Nat} {b : List Bool} {p : PrI} (hq : ps[q]? = some p) (g : ¬ (p.1 = d ∨ p.2 = d)) : (flipB ps d b).getD q false = b.getD q false := by
  rw [flip_at hq, if_neg g]
theorem at_of {q : Nat} (h : q < ps.length) : ∃ p, ps[q]? = some p := ⟨_, List.getElem?_eq_getElem h⟩
theorem PairsOk.marks (h : PairsOk n order ps one two) {d : Nat} {b : List Bool} (hc : canM (deedS order ps base code d) (marksB ps.length base b) = true) :
    (marksB ps.length base b ^^^ bitsM (deedS order ps base code d).tk) ||| bitsM (deedS order ps base code d).fl = marksB ps.length base (flipB ps d b) ∧ (marksB ps.length base b ^^^ bitsM (deedS order ps base code d).tk) &&& bitsM (deedS order ps base code d).fl = 0 := by
  have ht : ∀ i, (bitsM (deedS order ps base code d).tk).testBit i = true ↔ ∃ q p, ps[q]? = some p ∧ i ∈ tkQ p (base + 2 * q) d := fun i => by
    rw [bits_bit, decide_eq_true_iff]
    exact ((srt_perm _).mem_iff).trans mem_tkR
  have hf : ∀ i, (bitsM (deedS order ps base code d).fl).testBit i = true ↔ ∃ q p, ps[q]? = some p ∧ i ∈ flQ p (base + 2 * q) d := fun i => by
    rw [bits_bit, decide_eq_true_iff]
    exact ((srt_perm _).mem_iff).trans mem_flR
  have sub : ∀ i, (bitsM (deedS order ps base code d).tk).testBit i = true → (marksB ps.length base b).testBit i = true := fun i hi => by
    rw [bits_bit, decide_eq_true_iff] at hi
    exact can_iff.mp hc i hi
  have lef : ∀ i, (marksB ps.length base b ^^^ bitsM (deedS order ps base code d).tk).testBit i = true ↔ ∃ q p, ps[q]? = some p ∧ ¬ (p.1 = d ∨ p.2 = d) ∧ i = spotB base b q := fun i => by
    rw [Nat.testBit_xor]
    constructor
    · intro z
      have hm : (marksB ps.length base b).testBit i = true := by
        cases m : (marksB ps.length base b).testBit i with
        | true => rfl
        | false =>
          rw [m, Bool.false_xor] at z
          rw [sub i z] at m
          cases m
      have hn : (bitsM (deedS order ps base code d).tk).testBit i ≠ true := fun q => by
        rw [hm, q] at z
        cases z
      obtain ⟨q, hq, e⟩ := marksB_bit.mp hm
      obtain ⟨p, hp⟩ := at_of hq
      obtain ⟨t1, t2⟩ := tok_of hc hp
      refine ⟨q, p, hp, ?_, e⟩
      rintro (g | g)
      · refine hn ((ht i).mpr ⟨q, p, hp, mem_tkQ.mpr (.inr ⟨g, ?_⟩)⟩)
        rw [e]
        unfold spotB
        rw [t1 g, if_neg (by decide)]
      · refine hn ((ht i).mpr ⟨q, p, hp, mem_tkQ.mpr (.inl ⟨g, ?_⟩)⟩)
        rw [e]
        unfold spotB
        rw [t2 g, if_pos rfl]
        rfl
    · rintro ⟨q, p, hp, hno, e⟩
      have hm : (marksB ps.length base b).testBit i = true := marksB_bit.mpr ⟨q, (List.getElem?_eq_some_iff.mp hp).1, e⟩
      have hn : (bitsM (deedS order ps base code d).tk).testBit i = false := by
        cases m : (bitsM (deedS order ps base code d).tk).testBit i with
        | false => rfl
        | true =>
          obtain ⟨r, p', hr, hx⟩ := (ht i).mp m
          have er : r = q := by
            unfold spotB at e
            rcases mem_tkQ.mp hx with ⟨_, f⟩ | ⟨_, f⟩ <;> (split at e <;> omega)
          subst er
          rw [hp] at hr
          cases hr
          rcases mem_tkQ.mp hx with ⟨g, _⟩ | ⟨g, _⟩
          · exact absurd (.inr g) hno
          · exact absurd (.inl g) hno
      rw [hm, hn]
      rfl
  constructor
  · refine Nat.eq_of_testBit_eq fun i => Bool.eq_iff_iff.mpr ?_
    rw [Nat.testBit_or, Bool.or_eq_true, lef, hf, marksB_bit]
    constructor
    · rintro (⟨q, p, hp, hno, e⟩ | ⟨q, p, hp, hx⟩)
      · refine ⟨q, (List.getElem?_eq_some_iff.mp hp).1, ?_⟩
        rw [e]
        unfold spotB
        rw [flip_0 hp hno]
      · obtain ⟨t1, t2⟩ := tok_of hc hp
        refine ⟨q, (List.getElem?_eq_some_iff.mp hp).1, ?_⟩
        unfold spotB
        rcases mem_flQ.mp hx with ⟨g, f⟩ | ⟨g, f⟩
        · rw [flip_1 hp g (t1 g), f]
          rfl
        · rw [flip_2 hp g (t2 g), f]
          rfl
    · rintro ⟨q, hq, e⟩
      obtain ⟨p, hp⟩ := at_of hq
      obtain ⟨t1, t2⟩ := tok_of hc hp
      unfold spotB at e
      by_cases g : p.1 = d
      · rw [flip_1 hp g (t1 g)] at e
        exact .inr ⟨q, p, hp, mem_flQ.mpr (.inl ⟨g, e⟩)⟩
      · by_cases g2 : p.2 = d
        · rw [flip_2 hp g2 (t2 g2)] at e
          exact .inr ⟨q, p, hp, mem_flQ.mpr (.inr ⟨g2, e⟩)⟩
        · have hno : ¬ (p.1 = d ∨ p.2 = d) := fun z => z.elim g g2
          rw [flip_0 hp hno] at e
          exact .inl ⟨q, p, hp, hno, e⟩
  · refine Nat.eq_of_testBit_eq fun i => ?_
    rw [Nat.testBit_and, Nat.zero_testBit]
    cases m : (marksB ps.length base b ^^^ bitsM (deedS order ps base code d).tk).testBit i with
    | false => rfl
    | true =>
      cases m2 : (bitsM (deedS order ps base code d).fl).testBit i with
      | false => rfl
      | true =>
        obtain ⟨q, p, hp, hno, e⟩ := (lef i).mp m
        obtain ⟨r, p', hr, hx⟩ := (hf i).mp m2
        have er : r = q := by
          unfold spotB at e
          rcases mem_flQ.mp hx with ⟨_, f⟩ | ⟨_, f⟩ <;> (split at e <;> omega)
        subst er
        rw [hp] at hr
        cases hr
        rcases mem_flQ.mp hx with ⟨g, _⟩ | ⟨g, _⟩
        · exact absurd (.inl g) hno
        · exact absurd (.inr g) hno
def qiM (ps : List PrI) (one two : Nat → Nat) (w : Nat) : Nat := ps.idxOf (one w, two w)
theorem PairsOk.qi (h : PairsOk n order ps one two) {w : Nat} (hw : w < n) : ps[qiM ps one two w]? = some (one w, two w) := by
  obtain ⟨_, _, _, _, hm⟩ := h.ot w hw
  have hl := List.idxOf_lt_length_iff.mpr hm
  unfold qiM
  rw [List.getElem?_eq_getElem hl, List.getElem_idxOf]
def stB (n code base : Nat) (ps : List PrI) (one two : Nat → Nat) (b : List Bool) : St2 := (marksB ps.length base b, codeB n code (qiM ps one two) b)
theorem PairsOk.step (h : PairsOk n order ps one two) {d : Nat} {b : List Bool} (hd : d < 2 * n) (hc : canM (deedS order ps base code d) (stB n code base ps one two b).1 = true) :
    safe (deedS order ps base code d) (stB n code base ps one two b) ∧ behM (deedS order ps base code d) (stB n code base ps one two b) = stB n code base ps one two (flipB ps d b) := by
  obtain ⟨m1, m2⟩ := h.marks (code := code) (base := base) hc
  have hx : order[d]? = some (order.getD d 0) := at_getD 0 (by rw [h.ol]; exact hd)
  have hw : order.getD d 0 < n := h.ow _ (List.mem_of_getElem? hx)
  have hsw : (deedS order ps base code d).w = order.getD d 0 := rfl
  have hsu : (deedS order ps base code d).up = !(seenM order code d).testBit (order.getD d 0) := tb0 _ _
  generalize order.getD d 0 = w at hx hw hsw hsu
  obtain ⟨o1, o2, o3, o4, o5⟩ := h.ot w hw
  have hq := h.qi hw
  obtain ⟨t1, t2⟩ := tok_of hc hq
  have hcb : (codeB n code (qiM ps one two) b).testBit w = (code.testBit w ^^ b.getD (qiM ps one two w) false) := by
    rw [codeB_bit, decide_eq_true hw, Bool.true_and]
  refine ⟨⟨?_, m2⟩, Prod.ext m1 ?_⟩
  · show lev (codeB n code (qiM ps one two) b) (deedS order ps base code d).w ≠ (deedS order ps base code d).up
    rw [hsw, hsu, lev_bit, hcb]
    rcases o4 d hx with e | e
    · subst e
      rw [h.seen1 hw, t1 rfl, Bool.xor_false]
      cases code.testBit w <;> decide
    · subst e
      rw [h.seen2 hw, t2 rfl, Bool.xor_true]
      cases code.testBit w <;> decide
  · show codeB n code (qiM ps one two) b ^^^ 1 <<< (deedS order ps base code d).w = codeB n code (qiM ps one two) (flipB ps d b)
    rw [hsw]
    refine Nat.eq_of_testBit_eq fun i => ?_
    rw [bit_xor, codeB_bit, codeB_bit]
    by_cases hi : i < n
    · rw [decide_eq_true hi, Bool.true_and, Bool.true_and, flip_at (h.qi hi)]
      obtain ⟨i1, i2, i3, i4, i5⟩ := h.ot i hi
      by_cases e : w = i
      · subst e
        have g : one w = d ∨ two w = d := (o4 d hx).imp (fun z => z.symm) fun z => z.symm
        rw [decide_eq_true rfl, if_pos g]
        cases code.testBit w <;> cases b.getD (qiM ps one two w) false <;> decide
      · have g : ¬ (one i = d ∨ two i = d) := by
          rintro (z | z)
          · rw [z, hx] at i2
            exact e (Option.some.inj i2)
          · rw [z, hx] at i3
            exact e (Option.some.inj i3)
        rw [decide_eq_false e, if_neg g, Bool.xor_false]
    · have e : ¬ w = i := by omega
      rw [decide_eq_false hi, Bool.false_and, Bool.false_and, decide_eq_false e]
      simp
def startB (L : Nat) : List Bool := List.replicate L false
theorem start_at (L q : Nat) : (startB L).getD q false = false := by
  unfold startB
  rw [List.getD_eq_getElem?_getD, List.getElem?_replicate]
  split <;> rfl
theorem PairsOk.good (h : PairsOk n order ps one two) {wires : List (Str × Str)} (hwl : wires.length = n) (hn : n ≤ 3) (hb : base < 20) (hcd : code < 2 ^ n) {steps : List Stp} (hsl : steps.length ≤ 1000) (hs : ∀ s ∈ steps, ∃ d, d < 2 * n ∧ s = deedS order ps base code d)
    {marks : Nat} (hm : marks = marksB ps.length base (startB ps.length)) : GoodG 43 12 ⟨wires, steps, marks, code⟩ where
  sp := fun s hs' => by
    obtain ⟨d, hd, rfl⟩ := hs s hs'
    have pb : ∀ p ∈ ps, p.1 ≠ p.2 := fun p hp => (h.pb p hp).2.2
    obtain ⟨l1, l2⟩ := tkR_len (d := d) (s := base) pb
    have pl := h.pl
    have bd : ∀ (q : Nat) (p : PrI), ps[q]? = some p → base + 2 * q + 1 < 43 := fun q p hq => by
      have := (List.getElem?_eq_some_iff.mp hq).1
      omega
    refine ⟨(srt_perm _).nodup_iff.mpr (tkR_nd pb), ?_, ?_, fun x hx => ?_, fun x hx => ?_, ?_⟩
    · show (srt _).length ≤ 12
      rw [(srt_perm _).length_eq]
      omega
    · show (srt _).length ≤ 12
      rw [(srt_perm _).length_eq]
      omega
    · obtain ⟨q, p, hq, hx⟩ := mem_tkR.mp ((srt_perm _).mem_iff.mp hx)
      have := bd q p hq
      rcases mem_tkQ.mp hx with ⟨_, e⟩ | ⟨_, e⟩ <;> omega
    · obtain ⟨q, p, hq, hx⟩ := mem_flR.mp ((srt_perm _).mem_iff.mp hx)
      have := bd q p hq
      rcases mem_flQ.mp hx with ⟨_, e⟩ | ⟨_, e⟩ <;> omega
    · show order.getD d 0 < wires.length
      rw [hwl]
      exact h.ow _ (List.mem_of_getElem? (at_getD 0 (by rw [h.ol]; exact hd)))
  mm := fun x hx => by
    have hx' : marks.testBit x = true := hx
    rw [hm] at hx'
    obtain ⟨q, hq, e⟩ := marksB_bit.mp hx'
    have pl := h.pl
    unfold spotB at e
    split at e <;> omega
  wl := by
    show wires.length ≤ 10
    omega
  sl := hsl
  cd := by
    show code < 2 ^ wires.length
    rw [hwl]
    exact hcd
  set := by
    refine ⟨(allB ps.length).map (stB n code base ps one two), ?_, ?_, fun st hst s hs' hc => ?_⟩
    · rw [List.length_map, allB_len]
      exact Nat.le_trans (Nat.pow_le_pow_right (by decide) h.pl) (by decide)
    · refine List.mem_map.mpr ⟨startB ps.length, ?_, ?_⟩
      · have z := allB_mem (startB ps.length)
        rw [show (startB ps.length).length = ps.length from List.length_replicate] at z
        exact z
      · refine Prod.ext hm.symm (Nat.eq_of_testBit_eq fun i => ?_)
        show (codeB n code (qiM ps one two) (startB ps.length)).testBit i = code.testBit i
        rw [codeB_bit, start_at, Bool.and_false, Bool.xor_false]
    · obtain ⟨b, hb', rfl⟩ := List.mem_map.mp hst
      obtain ⟨d, hd, rfl⟩ := hs s hs'
      obtain ⟨g1, g2⟩ := h.step hd hc
      refine ⟨g1, ?_⟩
      rw [g2]
      refine List.mem_map.mpr ⟨_, ?_, rfl⟩
      have z := allB_mem (flipB ps d b)
      rw [show (flipB ps d b).length = ps.length by unfold flipB; rw [List.length_map, List.length_range]] at z
      exact z
end

end Q3

namespace Q3
open PySem L2 Evl
/-! ## the order and the arrows that are drawn -/
def oneM (l : List Nat) (w : Nat) : Nat := l.idxOf w
def twoM (l : List Nat) (w : Nat) : Nat := oneM l w + 1 + (l.drop (oneM l w + 1)).idxOf w
theorem idx_split {l : List Nat} {w : Nat} (h : w ∈ l) : l[l.idxOf w]? = some w ∧ (∀ e, e < l.idxOf w → l[e]? ≠ some w) ∧ l.count w = 1 + (l.drop (l.idxOf w + 1)).count w := by
  have hl := List.idxOf_lt_length_iff.mpr h
  have h1 : l[l.idxOf w]? = some w := by rw [List.getElem?_eq_getElem hl, List.getElem_idxOf]
  have h2 : ∀ e, e < l.idxOf w → l[e]? ≠ some w := fun e he z => by
    have := idx_le z
    omega
  refine ⟨h1, h2, ?_⟩
  have e : l = l.take (l.idxOf w) ++ (w :: l.drop (l.idxOf w + 1)) := by
    have z := (List.take_append_drop (l.idxOf w) l).symm
    rw [List.drop_eq_getElem_cons hl, List.getElem_idxOf] at z
    exact z
  have c0 : (l.take (l.idxOf w)).count w = 0 := count_take _ h2
  have c1 : l.count w = (l.take (l.idxOf w) ++ (w :: l.drop (l.idxOf w + 1))).count w := by rw [← e]
  rw [c1, List.count_append, c0, List.count_cons, beq_self_eq_true, if_pos rfl]
  omega
theorem two_at {l : List Nat} {w : Nat} (h : l.count w = 2) : w ∈ l ∧ w ∈ l.drop (oneM l w + 1) ∧ oneM l w < twoM l w ∧ l[oneM l w]? = some w ∧ l[twoM l w]? = some w ∧ ∀ d, l[d]? = some w → d = oneM l w ∨ d = twoM l w := by
  have hm : w ∈ l := List.count_pos_iff.mp (by omega)
  obtain ⟨h1, h2, h3⟩ := idx_split hm
  have hm2 : w ∈ l.drop (oneM l w + 1) := by
    unfold oneM
    exact List.count_pos_iff.mp (by omega)
  obtain ⟨g1, g2, g3⟩ := idx_split hm2
  have g4 : ((l.drop (oneM l w + 1)).drop ((l.drop (oneM l w + 1)).idxOf w + 1)).count w = 0 := by
    unfold oneM at g3 ⊢
    omega
  refine ⟨hm, hm2, by unfold twoM; omega, h1, ?_, fun d hd => ?_⟩
  · rw [List.getElem?_drop] at g1
    unfold twoM
    exact g1
  · by_cases a : d < oneM l w
    · exact absurd hd (h2 d a)
    · by_cases b : d = oneM l w
      · exact .inl b
      · right
        have e1 : (l.drop (oneM l w + 1))[d - (oneM l w + 1)]? = some w := by
          rw [List.getElem?_drop, show oneM l w + 1 + (d - (oneM l w + 1)) = d by omega]
          exact hd
        by_cases c : d - (oneM l w + 1) < (l.drop (oneM l w + 1)).idxOf w
        · exact absurd e1 (g2 _ c)
        · by_cases c2 : d - (oneM l w + 1) = (l.drop (oneM l w + 1)).idxOf w
          · unfold twoM
            omega
          · exfalso
            refine List.count_eq_zero.mp g4 (List.mem_iff_getElem?.mpr ⟨d - (oneM l w + 1) - ((l.drop (oneM l w + 1)).idxOf w + 1), ?_⟩)
            rw [List.getElem?_drop, show (l.drop (oneM l w + 1)).idxOf w + 1 + (d - (oneM l w + 1) - ((l.drop (oneM l w + 1)).idxOf w + 1)) = d - (oneM l w + 1) by omega]
            exact e1
theorem ins_count {l : List Nat} {n x w : Nat} : (insM l n x).count w = l.count w + (if x = w then 1 else 0) := by
  have e : l.count w = (l.take n).count w + (l.drop n).count w := by
    rw [← List.count_append, List.take_append_drop]
  unfold insM
  rw [List.count_append, List.count_append, e, List.count_singleton]
  by_cases h : x = w
  · subst h
    simp
    omega
  · have : (x == w) = false := beq_eq_false_iff_ne.mpr h
    rw [this, if_neg h]
    simp
theorem order_count (is : List Int) (first w : Nat) : ∀ n, (orderM is first n).count w = if w < n then 2 else 0
  | 0 => by
    rw [if_neg (by omega)]
    rfl
  | n + 1 => by
    show (ordStep _ n (orderM is first n)).count w = _
    unfold ordStep
    rw [ins_count, ins_count, order_count is first w n]
    by_cases h : w < n
    · rw [if_pos h, if_neg (by omega), if_pos (by omega)]
    · by_cases e : n = w
      · subst e
        rw [if_neg h, if_pos rfl, if_pos (by omega)]
      · rw [if_neg h, if_neg e, if_neg (by omega)]
theorem order_lt (is : List Int) (first n : Nat) {w : Nat} (h : w ∈ orderM is first n) : w < n := by
  have z := List.count_pos_iff.mpr h
  rw [order_count] at z
  by_cases q : w < n
  · exact q
  · rw [if_neg q] at z
    omega
/-- arrows within a size, none twice -/
structure PBase (size : Nat) (ps : List PrI) : Prop where
  nd : ps.Nodup
  pb : ∀ p ∈ ps, p.1 < size ∧ p.2 < size ∧ p.1 ≠ p.2
theorem PBase.add {size : Nat} {ps : List PrI} (h : PBase size ps) {p : PrI} (hn : p ∉ ps) (hp : p.1 < size ∧ p.2 < size ∧ p.1 ≠ p.2) : PBase size (ps ++ [p]) := by
  refine ⟨List.nodup_append.mpr ⟨h.nd, by simp, fun a ha b hb => ?_⟩, fun q hq => ?_⟩
  · rw [List.mem_singleton.mp hb]
    exact fun e => hn (by rw [← e]; exact ha)
  · rcases List.mem_append.mp hq with hq | hq
    · exact h.pb q hq
    · rw [List.mem_singleton.mp hq]
      exact hp
theorem arrows_base (is : List Int) (first size : Nat) (hs : 0 < size) : ∀ n, PBase size (arrowsM is first size n)
  | 0 => ⟨List.nodup_nil, fun _ h => nomatch h⟩
  | n + 1 => by
    have ih := arrows_base is first size hs n
    show PBase size (arrStep (mixM is (first + n)) size (arrowsM is first size n))
    generalize mixM is (first + n) = c
    unfold arrStep
    have h1 := Nat.mod_lt c hs
    have h2 := Nat.mod_lt (c / 64) hs
    split
    · rename_i h
      refine ih.add h.2 ⟨?_, ?_, ?_⟩
      · show min _ _ < size
        omega
      · show max _ _ < size
        omega
      · show min _ _ ≠ max _ _
        omega
    · exact ih
def pairs1M (c size : Nat) (ps : List PrI) : List PrI := if c % 3 = 0 then ps ++ ((List.range (size - 1)).filter fun k => !decide ((k, k + 1) ∈ ps)).map fun k => (k, k + 1) else ps
theorem pairs1_base {c size : Nat} {ps : List PrI} (h : PBase size ps) : PBase size (pairs1M c size ps) ∧ (pairs1M c size ps).length ≤ ps.length + (size - 1) := by
  unfold pairs1M
  split
  · refine ⟨⟨List.nodup_append.mpr ⟨h.nd, ?_, fun a ha b hb => ?_⟩, fun p hp => ?_⟩, ?_⟩
    · exact List.pairwise_map.mpr (List.Pairwise.imp (fun h e => h (congrArg Prod.fst e)) (List.nodup_range.filter _))
    · obtain ⟨k, hk, rfl⟩ := List.mem_map.mp hb
      have z := (List.mem_filter.mp hk).2
      intro e
      subst e
      rw [decide_eq_true ha] at z
      cases z
    · rcases List.mem_append.mp hp with hp | hp
      · exact h.pb p hp
      · obtain ⟨k, hk, rfl⟩ := List.mem_map.mp hp
        have := List.mem_range.mp (List.mem_filter.mp hk).1
        refine ⟨?_, ?_, ?_⟩
        · show k < size
          omega
        · show k + 1 < size
          omega
        · show k ≠ k + 1
          omega
    · rw [List.length_append, List.length_map]
      have := List.length_filter_le (fun k => !decide ((k, k + 1) ∈ ps)) (List.range (size - 1))
      rw [List.length_range] at this
      omega
  · exact ⟨h, by omega⟩
def pairs2M (order : List Nat) (ps : List PrI) : Nat → List PrI
  | 0 => ps
  | w + 1 => ((pairs2M order ps w).filter fun p => !decide (p = (oneM order w, twoM order w))) ++ [(oneM order w, twoM order w)]
theorem pairs2_base {order : List Nat} {n : Nat} (hol : order.length = 2 * n) (hc : ∀ w, w < n → order.count w = 2) {ps : List PrI} (h : PBase (2 * n) ps) : ∀ w, w ≤ n → PBase (2 * n) (pairs2M order ps w) ∧ (pairs2M order ps w).length ≤ ps.length + w ∧ ∀ v, v < w → (oneM order v, twoM order v) ∈ pairs2M order ps w
  | 0, _ => ⟨h, Nat.le_refl _, fun _ hv => absurd hv (by omega)⟩
  | w + 1, hw => by
    obtain ⟨ih, il, im⟩ := pairs2_base hol hc h w (by omega)
    obtain ⟨_, _, t1, t2, t3, _⟩ := two_at (hc w (by omega))
    have b1 := (List.getElem?_eq_some_iff.mp t2).1
    have b2 := (List.getElem?_eq_some_iff.mp t3).1
    have fb : PBase (2 * n) ((pairs2M order ps w).filter fun p => !decide (p = (oneM order w, twoM order w))) := ⟨ih.nd.filter _, fun p hp => ih.pb p (List.mem_filter.mp hp).1⟩
    refine ⟨fb.add (fun z => ?_) ⟨?_, ?_, ?_⟩, ?_, fun v hv => ?_⟩
    · have q := (List.mem_filter.mp z).2
      rw [decide_eq_true rfl] at q
      cases q
    · show oneM order w < 2 * n
      omega
    · show twoM order w < 2 * n
      omega
    · show oneM order w ≠ twoM order w
      omega
    · show ((pairs2M order ps w).filter _ ++ [_]).length ≤ _
      rw [List.length_append, List.length_singleton]
      have := List.length_filter_le (fun p => !decide (p = (oneM order w, twoM order w))) (pairs2M order ps w)
      omega
    · by_cases e : v = w
      · subst e
        exact List.mem_append_right _ (List.mem_singleton.mpr rfl)
      · refine List.mem_append_left _ (List.mem_filter.mpr ⟨im v (by omega), ?_⟩)
        have ne : ¬ (oneM order v, twoM order v) = (oneM order w, twoM order w) := fun z => by
          have z1 : oneM order v = oneM order w := congrArg Prod.fst z
          obtain ⟨_, _, _, u2, _, _⟩ := two_at (hc v (by omega))
          rw [z1, t2] at u2
          exact e (Option.some.inj u2).symm
        rw [decide_eq_false ne]
        rfl
def pairsM (is : List Int) (first n many : Nat) : List PrI := pairs2M (orderM is first n) (pairs1M (mixM is (first + n)) (2 * n) (arrowsM is (first + n + 1) (2 * n) many)) n
theorem pairs_ok (is : List Int) (first n many : Nat) (h1 : 0 < n) (h2 : n ≤ 3) (h3 : many ≤ 3) : PairsOk n (orderM is first n) (pairsM is first n many) (oneM (orderM is first n)) (twoM (orderM is first n)) := by
  have hc : ∀ w, w < n → (orderM is first n).count w = 2 := fun w hw => by rw [order_count, if_pos hw]
  have ab := arrows_base is (first + n + 1) (2 * n) (by omega) many
  have al := arr_len is (first + n + 1) (2 * n) many
  obtain ⟨b1, l1⟩ := pairs1_base (c := mixM is (first + n)) ab
  obtain ⟨b2, l2, m2⟩ := pairs2_base (order_len is first n) hc b1 n (Nat.le_refl n)
  refine ⟨order_len is first n, fun w hw => order_lt is first n hw, b2.nd, ?_, b2.pb, fun w hw => ?_⟩
  · show (pairs2M _ _ n).length ≤ 11
    omega
  · obtain ⟨_, _, t1, t2, t3, t4⟩ := two_at (hc w hw)
    exact ⟨t1, t2, t3, t4, m2 w hw⟩
theorem marks_more (L base : Nat) : marksB (L + 1) base (startB (L + 1)) = marksB L base (startB L) ||| 1 <<< (base + 2 * L + 1) := by
  refine Nat.eq_of_testBit_eq fun i => Bool.eq_iff_iff.mpr ?_
  rw [or_bit1, Bool.or_eq_true, marksB_bit, marksB_bit, decide_eq_true_iff]
  have e : ∀ M q, spotB base (startB M) q = base + 2 * q + 1 := fun M q => by
    unfold spotB
    rw [start_at]
    rfl
  constructor
  · rintro ⟨q, hq, h⟩
    rw [e] at h
    by_cases z : q < L
    · exact .inl ⟨q, z, by rw [e]; exact h⟩
    · right
      have : q = L := by omega
      subst this
      exact h.symm
  · rintro (⟨q, hq, h⟩ | h)
    · exact ⟨q, by omega, by rw [e] at h ⊢; exact h⟩
    · exact ⟨L, Nat.lt_succ_self L, by rw [e]; exact h.symm⟩

end Q3

namespace Q3
open PySem L2 Evl PyProof.Rows

/-! ## a list of lists: the inner ones are ghosts, their items told beside -/
def natV (n : Nat) : V := .int (n : Int)
def gfree (a : Addr) : V × SD := (.ref a, .own a fun _ _ => True)
/-- the outer list -/
def outOk (as : List Addr) : HO → Hp → Prop := fun o _ => o = .lst (as.map V.ref)
/-- what the inner lists hold -/
def Ins (H : Hp) (as : List Addr) (f : Nat → List Nat) : Prop := ∀ d a, as[d]? = some a → H a = some (.lst ((f d).map natV))
theorem Ins.ex {H H' : Hp} {as : List Addr} {f : Nat → List Nat} (h : Ins H as f) (e : Ex H H') : Ins H' as f := fun d a ha => e _ _ (h d a ha)
theorem Ins.keep {H H' : Hp} {as : List Addr} {f : Nat → List Nat} {a : Addr} (h : Ins H as f) (hn : a ∉ as) (hk : ∀ c o, H c = some o → c ≠ a → H' c = some o) : Ins H' as f := fun d c hc => hk _ _ (h d c hc) fun e => hn (e ▸ List.mem_of_getElem? hc)
theorem nodup_ix {α : Type} {l : List α} (h : l.Nodup) {i j : Nat} {x : α} (hi : l[i]? = some x) (hj : l[j]? = some x) : i = j := by
  have hil := (List.getElem?_eq_some_iff.mp hi).1
  have hjl := (List.getElem?_eq_some_iff.mp hj).1
  exact (List.getElem?_inj hil h).mp (hi.trans hj.symm)
theorem Ins.app {H H' : Hp} {as : List Addr} {f f' : Nat → List Nat} {a : Addr} {n x : Nat} (h : Ins H as f) (nd : as.Nodup) (ha : as[n]? = some a) (hx : H' a = some (.lst ((f n ++ [x]).map natV))) (hk : ∀ c o, H c = some o → c ≠ a → H' c = some o) (e1 : f' n = f n ++ [x]) (e2 : ∀ d, d ≠ n → f' d = f d) : Ins H' as f' := fun d c hc => by
  by_cases e : d = n
  · subst e
    rw [hc] at ha
    cases ha
    rw [e1]
    exact hx
  · rw [e2 d e]
    exact hk _ _ (h d c hc) fun ec => e (nodup_ix nd hc (by rw [ec]; exact ha))
section
variable {K : PySem.W.Frag} {He H : Hp} {σ : L2.St} {Γ : List SD} {G : List (V × SD)} {D : Ends} {te : TE} {tb : TS} {ds : List PyData} {g : TG} {tz : TS}
/-- a free ghost's object changes -/
theorem Env.updG {a : Addr} {o : HO} (E : Env K He H σ Γ G) (hG : ∀ p ∈ G, ∃ b, p = gfree b) (ha : gfree a ∈ G) (ho : isTup o = false) : Env K He (L2.upd H a o) σ Γ G := by
  obtain ⟨_, h0, u, hu, ht, _⟩ := E.gh _ ha
  have te : TEx H (L2.upd H a o) := te_upd hu ht
  refine ⟨E.ex.mut h0, E.len, fun j t hj => ?_, fun p hp => ?_, E.inj, E.gi⟩
  · rcases E.at_ j t hj with q | ⟨w, p, q⟩
    · exact .inl q
    · refine .inr ⟨w, p, q.keep te fun b z eb hz => ?_⟩
      have hb : b ≠ a := fun e => E.gi j t b hj eb _ ha (by rw [e]; rfl)
      rw [L2.upd_ne hb]
      exact hz
  · obtain ⟨b, rfl⟩ := hG p hp
    obtain ⟨h1, h2, u2, h3, h4, h5⟩ := E.gh _ hp
    by_cases e : b = a
    · subst e
      exact ⟨rfl, h2, o, upd_same, ho, fun _ _ => trivial⟩
    · exact ⟨rfl, h2, u2, by rw [upd_ne e]; exact h3, h4, fun _ _ => trivial⟩
theorem Env.ghosts (E : Env K He H σ Γ G) : ∀ (as : List Addr), (∀ a ∈ as, He a = none ∧ (∃ o, H a = some o ∧ isTup o = false) ∧ ∀ (j : Nat) (t : SD), Γ[j]? = some t → t.ad ≠ some a) → Env K He H σ Γ (as.map gfree ++ G)
  | [], _ => E
  | a :: as, h => by
    obtain ⟨h1, ⟨o, h2, h3⟩, h4⟩ := h a List.mem_cons_self
    exact (Env.ghosts E as fun b hb => h b (List.mem_cons_of_mem _ hb)).ghost (v := .ref a) (s := .own a fun _ _ => True) ⟨rfl, h1, o, h2, h3, fun _ _ => trivial⟩ fun c ec => by
      cases ec
      exact h4
/-- [[] for x in xs], xs an own list -/
theorem s_nest {i j v : Nat} {a : Addr} (E : Env K He H σ Γ G) (h : Γ[i]? = some (.lst a ds)) (hv : i ≠ v) (hl : ds.length < 100000)
    (k : ∀ (A : Addr) (as : List Addr) σ' H', Ex H H' → as.length = ds.length → as.Nodup → (∀ c ∈ as, H c = none) → Ins H' as (fun _ => []) → Env K He H' σ' (Γ.set j (.own A (outOk as))) (as.map gfree ++ G) → D.nx σ' H') :
    tAsg (tLc (iList K (tVar i)) (gName v) tYes (tLst tNil) [v]) (gName j) D σ H := by
  rcases E.at_ i _ h with z | ⟨w, hw, e, h1, xs, h2, h3⟩
  · cases z
  · subst e
    refine ⟨_, hw, a, rfl, ⟨xs, sq_of h2⟩, fun Da hD => ?_⟩
    have hlen := h3.length
    refine ⟨fun m k H' => k = xs.length - m ∧ m ≤ xs.length ∧ Ex H H' ∧ ∃ as : List Addr, as.length = m ∧ as.Nodup ∧ H' Da = some (.lst (as.map V.ref)) ∧ ∀ c ∈ as, c ≠ Da ∧ H c = none ∧ H' c = some (.lst []), ⟨_, rfl, Nat.zero_le _, Ex.new hD, [], rfl, List.nodup_nil, upd_same, fun _ hc => nomatch hc⟩, ?_⟩
    rintro m k' H' ⟨rfl, hm, e2, as, hal, hnd, hDa, has⟩
    have h2' := e2 _ _ h2
    by_cases hlt : m < xs.length
    · refine .inr ⟨walk_list.goes m H' hlt (sq_of h2'), fun H4 => Ex H H4 ∧ ∃ as : List Addr, as.length = m + 1 ∧ as.Nodup ∧ H4 Da = some (.lst (as.map V.ref)) ∧ ∀ c ∈ as, c ≠ Da ∧ H c = none ∧ H4 c = some (.lst []), fun H4 ⟨p1, p2⟩ => ⟨xs.length - (m + 1), by omega, rfl, hlt, p1, p2⟩, fun x H'' y => ?_⟩
      obtain ⟨rfl, _⟩ := walk_list.yields m H' x H'' hlt (sq_of h2') y
      refine ⟨by rw [wipe_set List.mem_cons_self, wipe_wipe], ?_⟩
      unfold tYes
      dsimp only
      rw [if_pos rfl]
      refine ⟨Nat.zero_le _, fun c hc => ⟨as.map V.ref, by rw [upd_ne (ne_of_none hDa hc)]; exact hDa, by rw [List.length_map]; exact sz_lt (by omega), ?_, as ++ [c], ?_, ?_, ?_, fun d hd => ?_⟩⟩
      · exact (e2.trans (Ex.new hc)).mut hD
      · rw [List.length_append, hal]
        rfl
      · refine List.nodup_append.mpr ⟨hnd, by simp, fun d hd f hf => ?_⟩
        rw [List.mem_singleton.mp hf]
        intro ed
        subst ed
        rw [(has d hd).2.2] at hc
        cases hc
      · rw [upd_same, List.map_append]
        rfl
      · rcases List.mem_append.mp hd with hd | hd
        · obtain ⟨g1, g2, g3⟩ := has d hd
          refine ⟨g1, g2, ?_⟩
          rw [upd_ne g1, upd_ne (ne_of_none g3 hc)]
          exact g3
        · rw [List.mem_singleton.mp hd]
          have nD : c ≠ Da := fun ed => by
            rw [ed, hDa] at hc
            cases hc
          refine ⟨nD, fresh_back e2 hc, ?_⟩
          rw [upd_ne nD, upd_same]
    · have em : m = xs.length := by omega
      refine .inl ⟨by rw [em]; exact walk_list.stops H' (sq_of h2'), ?_⟩
      have fr := E.fresh hD
      have Eg := (E.mono e2).ghosts as fun c hc => by
        obtain ⟨g1, g2, g3⟩ := has c hc
        exact ⟨fresh_back E.ex g2, ⟨_, g3, rfl⟩, (E.fresh g2).1⟩
      refine k Da as _ H' e2 (by omega) hnd (fun c hc => (has c hc).2.1) (fun d c hc => ?_) (Eg.set (s := .own Da (outOk as)) ⟨rfl, fresh_back E.ex hD, _, hDa, rfl, fun _ _ => rfl⟩ fun c ec => ?_)
      · obtain ⟨_, _, g3⟩ := has c (List.mem_of_getElem? hc)
        exact g3
      · cases ec
        refine ⟨fun j t _ hj => fr.1 j t hj, fun p hp => ?_⟩
        rcases List.mem_append.mp hp with hp | hp
        · obtain ⟨c, hc, rfl⟩ := List.mem_map.mp hp
          intro ez
          exact (has c hc).1 (Option.some.inj ez)
        · exact fr.2 p hp
theorem q_nest {i j v : Nat} {a : Addr} (E : Env K He H σ Γ G) (h : Γ[i]? = some (.lst a ds)) (hv : i ≠ v) (hl : ds.length < 100000)
    (k : ∀ (A : Addr) (as : List Addr) σ' H', Ex H H' → as.length = ds.length → as.Nodup → (∀ c ∈ as, H c = none) → Ins H' as (fun _ => []) → Env K He H' σ' (Γ.set j (.own A (outOk as))) (as.map gfree ++ G) → tz D σ' H') :
    tSeq (tAsg (tLc (iList K (tVar i)) (gName v) tYes (tLst tNil) [v]) (gName j)) tz D σ H := s_nest (D := { D with nx := tz D }) E h hv hl k
/-- xss[i].append(x) -/
theorem q_nap {s i n x : Nat} {A a : Addr} {as : List Addr} {l : List Nat} (E : Env K He H σ Γ G) (hs : Γ[s]? = some (.own A (outOk as))) (hi : Γ[i]? = some (.dat (nat n))) (ha : as[n]? = some a) (hG : ∀ p ∈ G, ∃ b, p = gfree b) (hg : gfree a ∈ G) (hl : H a = some (.lst (l.map natV))) (hz : l.length < 100000) (hx : Xd K te Γ (nat x))
    (k : ∀ H', Env K He H' σ Γ G → H' a = some (.lst ((l ++ [x]).map natV)) → (∀ c o, H c = some o → c ≠ a → H' c = some o) → tz D σ H') :
    tSeq (tDrop (tBM K "list" rAppend (tOp (rIxL K) (tVar s) (tVar i)) (tCons te tNil))) tz D σ H := by
  rcases E.at_ s _ hs with z | ⟨u, hu, rfl, h0, o, ho, _, hP⟩
  · cases z
  · rcases E.at_ i _ hi with z | ⟨v, hv, tv⟩
    · cases z
    · have eo := hP H (TEx.refl H)
      unfold outOk at eo
      subst eo
      rw [show v = V.int (n : Int) from Tp.int_eq tv] at hv
      refine ⟨_, hu, _, hv, A, _, n, .ref a, rfl, rfl, sq_of ho, atI_nat (by rw [List.getElem?_map, ha]; rfl), .inl ⟨rfl, _, sq_of hl⟩, ?_⟩
      refine hx He H σ G E _ fun w H2 e2 t2 => ⟨a, _, w, rfl, rfl, e2 _ _ hl, by rw [List.length_map]; exact sz_lt hz, ?_⟩
      rw [t2.int_eq]
      have en : (l.map natV ++ [V.int (x : Int)]) = (l ++ [x]).map natV := by rw [List.map_append] <;> rfl
      rw [en]
      exact k _ ((E.mono e2).updG hG hg rfl) upd_same fun c o hc hne => by
        rw [upd_ne hne]
        exact e2 c o hc
/-- for i, j in xs, xs an own list: a word J of the heap beside the slots; no ghost comes or goes -/
theorem s_forJ {S : Type} {i : Nat} {a : Addr} {js : Nat → List Nat} {up : Nat → List SD → List SD} {f : Nat → PyData} (I : Nat → S → Prop) (J : Nat → S → Hp → Prop) (Γs : Nat → S → List SD) (s0 : S) (E : Env K He H σ Γ G) (h : ∀ m s, m ≤ ds.length → I m s → (Γs m s)[i]? = some (.lst a ds)) (hf : ∀ m d, ds[m]? = some d → f m = d)
    (h0 : I 0 s0) (j0 : J 0 s0 H) (hw : Wk Γ (Γs 0 s0)) (hg : ∀ m, m < ds.length → Gok K g (f m) (js m) (up m))
    (hs : ∀ m s σ' H', m < ds.length → I m s → J m s H' → Env K He H' σ' (up m (Γs m s)) G →
      tb { D with nx := fun σ2 H2 => ∃ s', I (m + 1) s' ∧ J (m + 1) s' H2 ∧ Env K He H2 σ2 (Γs (m + 1) s') G, ct := fun σ2 H2 => ∃ s', I (m + 1) s' ∧ J (m + 1) s' H2 ∧ Env K He H2 σ2 (Γs (m + 1) s') G, bk := D.nx } σ' H')
    (hd : ∀ s σ' H', I ds.length s → J ds.length s H' → Env K He H' σ' (Γs ds.length s) G → D.nx σ' H') : tFor (iList K (tVar i)) g tb D σ H := by
  have E0 := E.wk hw
  rcases E0.at_ i _ (h 0 s0 (Nat.zero_le _) h0) with z | ⟨v, hv, e, h1, xs, h2, h3⟩
  · cases z
  · subst e
    refine ⟨_, hv, a, rfl, ⟨xs, sq_of h2⟩, fun m k σ' H' => k = ds.length - m ∧ m ≤ ds.length ∧ ∃ s, I m s ∧ J m s H' ∧ Env K He H' σ' (Γs m s) G, ⟨_, rfl, Nat.zero_le _, s0, h0, j0, E0⟩, ?_⟩
    rintro m k' σ' H' ⟨rfl, hm, s, is, jj, E'⟩
    rcases E'.at_ i _ (h m s hm is) with z | ⟨v', hv', e', h1', ys, h2', h3'⟩
    · cases z
    · have hlen := h3'.length
      by_cases hlt : m < ds.length
      · refine .inr ⟨walk_list.goes m H' (by omega) (sq_of h2'), fun σ2 H2 => ∃ s', I (m + 1) s' ∧ J (m + 1) s' H2 ∧ Env K He H2 σ2 (Γs (m + 1) s') G, fun σ2 H2 q => ⟨ds.length - (m + 1), by omega, rfl, hlt, q⟩, fun x H'' y => ?_⟩
        obtain ⟨rfl, hxi⟩ := walk_list.yields m H' x H'' (by omega) (sq_of h2') y
        obtain ⟨d, hd', t⟩ := h3'.at_ hxi
        rw [← hf m d hd'] at t
        exact hg m hlt He _ σ' (Γs m s) _ x E' t _ fun σ2 E2 _ => hs m s σ2 _ hlt is jj E2
      · have e3 : m = ds.length := by omega
        subst e3
        exact .inl ⟨by rw [← hlen]; exact walk_list.stops H' (sq_of h2'), hd s σ' H' is jj E'⟩
/-- for k, x in enumerate(xs), xs an own list: a word J of the heap beside the slots -/
theorem s_forJE {S : Type} {i : Nat} {a : Addr} {js : Nat → List Nat} {up : Nat → List SD → List SD} {f : Nat → PyData} (I : Nat → S → Prop) (J : Nat → S → Hp → Prop) (Γs : Nat → S → List SD) (s0 : S) (E : Env K He H σ Γ G) (h : ∀ m s, m ≤ ds.length → I m s → (Γs m s)[i]? = some (.lst a ds)) (hf : ∀ m d, ds[m]? = some d → f m = .tuple [.int (m : Int), d])
    (hJ : ∀ m s H H', Ex H H' → J m s H → J m s H') (h0 : I 0 s0) (j0 : J 0 s0 H) (hw : Wk Γ (Γs 0 s0)) (hg : ∀ m, m < ds.length → Gok K g (f m) (js m) (up m))
    (hs : ∀ m s σ' H', m < ds.length → I m s → J m s H' → Env K He H' σ' (up m (Γs m s)) G →
      tb { D with nx := fun σ2 H2 => ∃ s', I (m + 1) s' ∧ J (m + 1) s' H2 ∧ Env K He H2 σ2 (Γs (m + 1) s') G, ct := fun σ2 H2 => ∃ s', I (m + 1) s' ∧ J (m + 1) s' H2 ∧ Env K He H2 σ2 (Γs (m + 1) s') G, bk := D.nx } σ' H')
    (hd : ∀ s σ' H', I ds.length s → J ds.length s H' → Env K He H' σ' (Γs ds.length s) G → D.nx σ' H') : tFor (iEnum K (tCons (tVar i) tNil)) g tb D σ H := by
  have E0 := E.wk hw
  rcases E0.at_ i _ (h 0 s0 (Nat.zero_le _) h0) with z | ⟨v, hv, e, h1, xs, h2, h3⟩
  · cases z
  · subst e
    refine ⟨_, hv, a, xs, rfl, sq_of h2, fun m k σ' H' => k = ds.length - m ∧ m ≤ ds.length ∧ ∃ s, I m s ∧ J m s H' ∧ Env K He H' σ' (Γs m s) G, ⟨_, rfl, Nat.zero_le _, s0, h0, j0, E0⟩, ?_⟩
    rintro m k' σ' H' ⟨rfl, hm, s, is, jj, E'⟩
    rcases E'.at_ i _ (h m s hm is) with z | ⟨v', hv', e', h1', ys, h2', h3'⟩
    · cases z
    · obtain ⟨go, stop⟩ := enum_at (f := f) (sq_of h2') h3' hf
      by_cases hlt : m < ds.length
      · obtain ⟨g1, g2⟩ := go m hlt
        refine .inr ⟨g1, fun σ2 H2 => ∃ s', I (m + 1) s' ∧ J (m + 1) s' H2 ∧ Env K He H2 σ2 (Γs (m + 1) s') G, fun σ2 H2 q => ⟨ds.length - (m + 1), by omega, rfl, hlt, q⟩, fun x H'' y => ?_⟩
        obtain ⟨e2, t2⟩ := g2 x H'' y
        exact hg m hlt He _ σ' (Γs m s) _ x (E'.mono e2) t2 _ fun σ2 E2 _ => hs m s σ2 _ hlt is (hJ m s _ _ e2 jj) E2
      · have e3 : m = ds.length := by omega
        subst e3
        exact .inl ⟨stop, hd s σ' H' is jj E'⟩
/-- what a term gives, from here on -/
def EvD (K : PySem.W.Frag) (σ : L2.St) (H : Hp) (te : TE) (d : PyData) : Prop := ∀ H2, Ex H H2 → ∀ Q : VK, (∀ v H3, Ex H2 H3 → Tp H3 v d → Q v H3) → te σ H2 Q
theorem ev_of {d : PyData} (E : Env K He H σ Γ G) (h : Xd K te Γ d) : EvD K σ H te d := fun H2 e Q q => h He H2 σ G (E.mono e) Q q
theorem ev_tup4 {t1 t2 t3 t4 : TE} {d1 d2 d3 d4 : PyData} (h1 : EvD K σ H t1 d1) (h2 : EvD K σ H t2 d2) (h3 : EvD K σ H t3 d3) (h4 : EvD K σ H t4 d4) : EvD K σ H (tTup (tCons t1 (tCons t2 (tCons t3 (tCons t4 tNil))))) (.tuple [d1, d2, d3, d4]) := fun H2 e Q q =>
  h1 H2 e _ fun v1 H3 e3 a1 => h2 H3 (e.trans e3) _ fun v2 H4 e4 a2 => h3 H4 ((e.trans e3).trans e4) _ fun v3 H5 e5 a3 => h4 H5 (((e.trans e3).trans e4).trans e5) _ fun v4 H6 e6 a4 => ⟨(show 4 ≤ sizeLine by decide), fun p hp =>
    q _ _ ((((e3.trans e4).trans e5).trans e6).trans (Ex.new hp)) (.tup upd_same (.cons (a1.ex (((e4.trans e5).trans e6).trans (Ex.new hp))) (.cons (a2.ex ((e5.trans e6).trans (Ex.new hp))) (.cons (a3.ex (e6.trans (Ex.new hp))) (.cons (a4.ex (Ex.new hp)) .nil)))))⟩
/-- tuple(sorted(xss[n])) -/
theorem ev_nsort {s i n : Nat} {A a : Addr} {as : List Addr} {l : List Nat} (E : Env K He H σ Γ G) (hs : Γ[s]? = some (.own A (outOk as))) (hi : Γ[i]? = some (.dat (nat n))) (ha : as[n]? = some a) (hl : H a = some (.lst (l.map natV))) (hz : l.length < 64) :
    EvD K σ H (tCB (fun xs H Q => ∃ p ys, xs = [.ref p] ∧ ((SqL K H p ys ∧ ∀ l, H l = none → Q (.ref l) (upd H l (.tup ys))) ∨ (SqT K H p ys ∧ Q (.ref p) H))) (tCons (tCB (rSorted K) (tCons (tOp (rIxL K) (tVar s) (tVar i)) tNil)) tNil)) (encNs (srt l)) := fun H2 e Q q => by
  rcases E.at_ s _ hs with z | ⟨u, hu, rfl, h0, o, ho, _, hP⟩
  · cases z
  · rcases E.at_ i _ hi with z | ⟨v, hv, tv⟩
    · cases z
    · have eo := hP H (TEx.refl H)
      unfold outOk at eo
      subst eo
      rw [show v = V.int (n : Int) from Tp.int_eq tv] at hv
      have en : l.map natV = (l.map Int.ofNat).map V.int := by rw [List.map_map] <;> rfl
      refine ⟨_, hu, _, hv, A, _, n, .ref a, rfl, rfl, sq_of (e _ _ ho), atI_nat (by rw [List.getElem?_map, ha]; rfl), a, l.map Int.ofNat, rfl, sq_of (by rw [← en]; exact e _ _ hl), by rw [List.length_map]; exact hz, fun ms p g1 g2 hp => ?_⟩
      rw [srt_is g1 g2]
      refine ⟨p, _, rfl, .inl ⟨sq_of upd_same, fun p2 hp2 => q _ _ ((Ex.new hp).trans (Ex.new hp2)) ?_⟩⟩
      refine .tup upd_same ?_
      rw [nats_ints]
      exact tp_ints _
/-- xs.append(e), e told from here on; what else stands -/
theorem q_appE {i : Nat} {a : Addr} {d : PyData} (E : Env K He H σ Γ G) (hi : Γ[i]? = some (.lst a ds)) (hx : EvD K σ H te d) (hz : ds.length < 100000) (k : ∀ H', Env K He H' σ (Γ.set i (.lst a (ds ++ [d]))) G → (∀ c o, H c = some o → c ≠ a → H' c = some o) → tz D σ H') :
    tSeq (tDrop (tBM K "list" rAppend (tVar i) (tCons te tNil))) tz D σ H := by
  rcases E.at_ i _ hi with z | ⟨v, hv, e, h1, xs, h2, h3⟩
  · cases z
  · subst e
    refine ⟨_, hv, .inl ⟨rfl, xs, sq_of h2⟩, hx H (Ex.refl H) _ fun w H2 e2 t2 => ⟨a, xs, w, rfl, rfl, e2 _ _ h2, sz_lt (by rw [h3.length]; exact hz), k _ ((E.mono e2).upd hi rfl (.inl rfl) fun u hu => .inr ?_) fun c o hc hne => by
      rw [upd_ne hne]
      exact e2 c o hc⟩⟩
    obtain ⟨e3, h4, ys, h5, h6⟩ := hu
    have e5 : ys = xs := by
      have z := h5.symm.trans (e2 _ _ h2)
      cases z
      rfl
    subst e5
    exact ⟨e3, h4, _, upd_same, TpAll.mono (te_upd h5 rfl) _ _ (h6.append (.one t2))⟩
/-- a ghost lies apart from the own lists -/
theorem Env.apart {i : Nat} {a b : Addr} (E : Env K He H σ Γ G) (hi : Γ[i]? = some (.lst a ds)) (hg : gfree b ∈ G) : b ≠ a := fun e => E.gi i _ a hi rfl _ hg (by rw [e]; rfl)
end
end Q3

namespace Q3
open PySem L2 Evl
/-! ## drawing: graph -/
def D_l_graph : List SD → Res → Prop := fun as R => ∃ (is : List Int) (first n many : Nat), as = [.rdl (is.map .int), .dat (nat first), .dat (nat n), .dat (nat many)] ∧ 0 < n ∧ n ≤ 3 ∧ many ≤ 3 ∧ R = RQ (IsGood 43 12 5)
theorem tkR_more {ps : List PrI} {m : Nat} {p : PrI} (h : ps[m]? = some p) (base d : Nat) : tkR (ps.take (m + 1)) base d = tkR (ps.take m) base d ++ tkQ p (base + 2 * m) d := by
  have hm : m < ps.length := (List.getElem?_eq_some_iff.mp h).1
  rw [filt_take h, tkR_snoc, List.length_take, Nat.min_eq_left (by omega)]
theorem flR_more {ps : List PrI} {m : Nat} {p : PrI} (h : ps[m]? = some p) (base d : Nat) : flR (ps.take (m + 1)) base d = flR (ps.take m) base d ++ flQ p (base + 2 * m) d := by
  have hm : m < ps.length := (List.getElem?_eq_some_iff.mp h).1
  rw [filt_take h, flR_snoc, List.length_take, Nat.min_eq_left (by omega)]
theorem seen_more {order : List Nat} {m w : Nat} (h : order[m]? = some w) (code : Nat) : seenM order code (m + 1) = seenM order code m ^^^ 1 <<< w := by
  unfold seenM
  rw [filt_take h, List.foldl_append]
  rfl
theorem gf_free {as bs : List Addr} : ∀ p ∈ as.map gfree ++ (bs.map gfree ++ []), ∃ b, p = gfree b := fun p hp => by
  rcases List.mem_append.mp hp with hp | hp
  · obtain ⟨b, _, rfl⟩ := List.mem_map.mp hp
    exact ⟨b, rfl⟩
  · rw [List.append_nil] at hp
    obtain ⟨b, _, rfl⟩ := List.mem_map.mp hp
    exact ⟨b, rfl⟩
theorem gf_l {as bs : List Addr} {a : Addr} (h : a ∈ as) : gfree a ∈ as.map gfree ++ (bs.map gfree ++ []) := List.mem_append_left _ (List.mem_map.mpr ⟨a, h, rfl⟩)
theorem gf_r {as bs : List Addr} {a : Addr} (h : a ∈ bs) : gfree a ∈ as.map gfree ++ (bs.map gfree ++ []) := List.mem_append_right _ (List.mem_append_left _ (List.mem_map.mpr ⟨a, h, rfl⟩))
theorem deed_eq {order : List Nat} {ps : List PrI} {base code m w : Nat} (h : order[m]? = some w) : deedS order ps base code m = ⟨w, decide (seenM order code m >>> w &&& 1 = 0), srt (tkR ps base m), srt (flR ps base m)⟩ := by
  unfold deedS
  rw [getD_of _ h]
section
variable {P : Program} {w : World} {K : PySem.W.Frag} {mg : Str → Option Value} {base : Heap} {C : Addr} {f : Nat → Addr} {fd : Nat → FuncData} {xc : Nat → Addr}
set_option maxHeartbeats 16000000 in
theorem ok_l_graph (T : Top K mg C f fd xc) : FnOk P w K mg base CX0 3 (f 21) (fd 21) ["_law_script", "_law_first", "_law_n", "_law_many"] (spG K D_l_graph) := by
  refine Fun.pure T.l_graph.F sc_l_graph (fun as R hD => ?_) (by decide) fun cdv A outer s H E hr => ⟨_, (pss_cons (ps_set (i := 4) sc_l_graph.nd rfl (Or.inl rfl) (pe_call (ok_l_order T) (hr.mono (by decide)) (by rfl) T.l_order.m T.l_order.F.kp T.l_order.b .nil pass0 (pa_cons (pv 0) (pa_cons (pv 1) (pa_cons (pv 2) pa_nil)))))
  (pss_cons (ps_set (i := 5) sc_l_graph.nd rfl (Or.inl rfl) (pe_op op_mul pe_int (pv 2)))
  (pss_cons (ps_set (i := 6) sc_l_graph.nd rfl (Or.inl rfl) (pe_call (ok_l_mix T) (hr.mono (by decide)) (by rfl) T.l_mix.m T.l_mix.F.kp T.l_mix.b .nil pass0 (pa_cons (pv 0) (pa_cons (pe_op op_add (pv 1) (pv 2)) pa_nil))))
  (pss_cons (ps_set (i := 7) sc_l_graph.nd rfl (Or.inr rfl) (pe_call (ok_l_arrows T) (hr.mono (by decide)) (by rfl) T.l_arrows.m T.l_arrows.F.kp T.l_arrows.b .nil pass0 (pa_cons (pv 0) (pa_cons (pe_op op_add (pe_op op_add (pv 1) (pv 2)) pe_int) (pa_cons (pv 3) (pa_cons (pv 5) pa_nil))))))
  (pss_cut (ps_if (pt_cmpR op_eq (pe_op op_mod (pv 6) pe_int) pe_int (nomark _)) (pss_one (ps_set (i := 7) sc_l_graph.nd rfl (Or.inr rfl) (pe_op op_cat (pv 7) (pe_lc (own := [("_law_k", 24)]) (by rfl) sc_l_graph.nd (pi_range1 rfl T.n_range (pa_cons (pe_op op_sub (pv 5) pe_int) pa_nil)) (blkOk_by (own := [("_law_k", 24)]) (N := N_l_graph) (sc := defScope s_l_graph) (by decide +kernel)) (fun _ _ _ _ _ => (pg_name (i := 24) sc_l_graph.nd rfl (Or.inl rfl))) (fun _ _ _ _ _ => (pts_one (pt_cmpR (op_notInDK K (hu65 hr)) (pe_tup (pa_cons (pv 24) (pa_cons (pe_op op_add (pv 24) pe_int) pa_nil))) (pv 7) (by rfl)))) (fun _ _ _ _ _ => (pe_tup (pa_cons (pv 24) (pa_cons (pe_op op_add (pv 24) pe_int) pa_nil)))))))) pss_nil)
  (pss_cons (ps_for PassesOwn.never rfl (pi_range1 rfl T.n_range (pa_cons (pv 2) pa_nil)) (pg_name (i := 8) sc_l_graph.nd rfl (Or.inl rfl))
  (pss_cons (ps_set (i := 9) sc_l_graph.nd rfl (Or.inr rfl) (pe_bm PySem.F.plainAttrs_list PySem.F.slot_list_index PySem.F.type_list_index mt_index (pv 4) (pa_cons (pv 8) pa_nil)))
  (pss_cons (ps_set (i := 10) sc_l_graph.nd rfl (Or.inr rfl) (pe_op op_add (pe_op op_add (pv 9) pe_int) (pe_bm PySem.F.plainAttrs_list PySem.F.slot_list_index PySem.F.type_list_index mt_index (pe_slice sl_list (pv 4) (po_some (pe_op op_add (pv 9) pe_int)) po_none) (pa_cons (pv 8) pa_nil))))
  (pss_one (ps_set (i := 7) sc_l_graph.nd rfl (Or.inr rfl) (pe_op op_cat (pe_lc (own := [("_law_pair", 25)]) (by rfl) sc_l_graph.nd (pi_list (pv 7)) (blkOk_by (own := [("_law_pair", 25)]) (N := N_l_graph) (sc := defScope s_l_graph) (by decide +kernel)) (fun _ _ _ _ _ => (pg_name (i := 25) sc_l_graph.nd rfl (Or.inl rfl))) (fun _ _ _ _ _ => (pts_one (pt_cmpR (op_neDK K hr.units) (pv 25) (pe_tup (pa_cons (pv 9) (pa_cons (pv 10) pa_nil))) (nomark _)))) (fun _ _ _ _ _ => (pv 25))) (pe_lst (pa_cons (pe_tup (pa_cons (pv 9) (pa_cons (pv 10) pa_nil))) pa_nil))))))))
  (pss_cons (ps_setLc (i := 11) (own := [("_law_d", 20)]) rfl sc_l_graph.nd rfl rfl (sw_true rfl rfl rfl (by decide +kernel)) (pi_list (pv 4)) (blkOk_by (own := [("_law_d", 20)]) (N := N_l_graph) (sc := defScope s_l_graph) (by decide +kernel)) (fun _ _ _ _ _ => (pg_name (i := 20) sc_l_graph.nd rfl (Or.inl rfl))) (fun _ _ _ _ _ => pts_nil) (fun _ _ _ _ _ => (pe_lst pa_nil)))
  (pss_cons (ps_setLc (i := 12) (own := [("_law_d", 20)]) rfl sc_l_graph.nd rfl rfl (sw_true rfl rfl rfl (by decide +kernel)) (pi_list (pv 4)) (blkOk_by (own := [("_law_d", 20)]) (N := N_l_graph) (sc := defScope s_l_graph) (by decide +kernel)) (fun _ _ _ _ _ => (pg_name (i := 20) sc_l_graph.nd rfl (Or.inl rfl))) (fun _ _ _ _ _ => pts_nil) (fun _ _ _ _ _ => (pe_lst pa_nil)))
  (pss_cons (ps_set (i := 13) sc_l_graph.nd rfl (Or.inl rfl) pe_int)
  (pss_cons (ps_set (i := 14) sc_l_graph.nd rfl (Or.inl rfl) (pe_op op_mod (pe_op op_fdiv (pv 6) pe_int) pe_int))
  (pss_cons (ps_for PassesOwn.never rfl (pi_list (pv 7)) (pg_tup rfl (pgs_cons (pg_name (i := 15) sc_l_graph.nd rfl (Or.inl rfl)) (pgs_cons (pg_name (i := 16) sc_l_graph.nd rfl (Or.inl rfl)) pgs_nil)))
  (pss_cons (ps_expr (pe_bm PySem.F.plainAttrs_list PySem.F.slot_list_append PySem.F.type_list_append mt_append (pe_ix ix_list (pv 12) (pv 15) (fun _ _ => rfl)) (pa_cons (pv 14) pa_nil)))
  (pss_cons (ps_expr (pe_bm PySem.F.plainAttrs_list PySem.F.slot_list_append PySem.F.type_list_append mt_append (pe_ix ix_list (pv 11) (pv 16) (fun _ _ => rfl)) (pa_cons (pv 14) pa_nil)))
  (pss_cons (ps_expr (pe_bm PySem.F.plainAttrs_list PySem.F.slot_list_append PySem.F.type_list_append mt_append (pe_ix ix_list (pv 12) (pv 16) (fun _ _ => rfl)) (pa_cons (pe_op op_add (pv 14) pe_int) pa_nil)))
  (pss_cons (ps_expr (pe_bm PySem.F.plainAttrs_list PySem.F.slot_list_append PySem.F.type_list_append mt_append (pe_ix ix_list (pv 11) (pv 15) (fun _ _ => rfl)) (pa_cons (pe_op op_add (pv 14) pe_int) pa_nil)))
  (pss_cons (ps_set (i := 13) sc_l_graph.nd rfl (Or.inl rfl) (pe_op op_or (pv 13) (pe_op op_shl pe_int (pe_op op_add (pv 14) pe_int))))
  (pss_one (ps_set (i := 14) sc_l_graph.nd rfl (Or.inl rfl) (pe_op op_add (pv 14) pe_int)))))))))
  (pss_cons (ps_set (i := 17) sc_l_graph.nd rfl (Or.inl rfl) (pe_op op_mod (pe_op op_fdiv (pv 6) pe_int) (pe_op op_shl pe_int (pv 2))))
  (pss_cons (ps_set (i := 18) sc_l_graph.nd rfl (Or.inl rfl) (pv 17))
  (pss_cons (ps_set (i := 19) sc_l_graph.nd rfl (Or.inl rfl) (pe_lst pa_nil))
  (pss_cons (ps_for PassesOwn.never rfl (pi_enum (by rfl) T.n_enumerate (pa_cons (pv 4) pa_nil)) (pg_tup rfl (pgs_cons (pg_name (i := 20) sc_l_graph.nd rfl (Or.inl rfl)) (pgs_cons (pg_name (i := 8) sc_l_graph.nd rfl (Or.inl rfl)) pgs_nil)))
  (pss_cons (ps_expr (pe_bm PySem.F.plainAttrs_list PySem.F.slot_list_append PySem.F.type_list_append mt_append (pv 19) (pa_cons (pe_tup (pa_cons (pv 8) (pa_cons (pe_cmpR op_eq (pe_op op_and (pe_op op_shr (pv 18) (pv 8)) pe_int) pe_int (nomark _)) (pa_cons (pe_callTy call_tuple_of (by rfl) T.n_tuple (by decide +kernel) (pa_cons (pe_callB cr_sorted (by rfl) T.n_sorted (by decide +kernel) (pa_cons (pe_ix ix_list (pv 11) (pv 20) (fun _ _ => rfl)) pa_nil)) pa_nil)) (pa_cons (pe_callTy call_tuple_of (by rfl) T.n_tuple (by decide +kernel) (pa_cons (pe_callB cr_sorted (by rfl) T.n_sorted (by decide +kernel) (pa_cons (pe_ix ix_list (pv 12) (pv 20) (fun _ _ => rfl)) pa_nil)) pa_nil)) pa_nil))))) pa_nil)))
  (pss_one (ps_set (i := 18) sc_l_graph.nd rfl (Or.inl rfl) (pe_op op_xor (pv 18) (pe_op op_shl pe_int (pv 8)))))))
  (pss_cons (ps_set (i := 21) sc_l_graph.nd rfl (Or.inl rfl) (pe_op op_mod (pe_op op_fdiv (pv 6) pe_int) (pv 5)))
  (pss_cons (ps_set (i := 19) sc_l_graph.nd rfl (Or.inl rfl) (pe_op op_cat (pe_slice sl_list (pv 19) (po_some (pv 21)) po_none) (pe_slice sl_list (pv 19) po_none (po_some (pv 21)))))
  (pss_cons (ps_set (i := 22) sc_l_graph.nd rfl (Or.inr rfl) (pe_op op_fdiv (pv 6) pe_int))
  (pss_cons (ps_setLc (i := 23) (own := [("_law_w", 8)]) rfl sc_l_graph.nd rfl rfl (sw_true rfl rfl rfl (by decide +kernel)) (pi_range1 rfl T.n_range (pa_cons (pv 2) pa_nil)) (blkOk_by (own := [("_law_w", 8)]) (N := N_l_graph) (sc := defScope s_l_graph) (by decide +kernel)) (fun _ _ _ _ _ => (pg_name (i := 8) sc_l_graph.nd rfl (Or.inl rfl))) (fun _ _ _ _ _ => pts_nil) (fun _ _ _ _ _ => (pe_tup (pa_cons (pe_call (ok_l_word T) (hr.mono (by decide)) (by rfl) T.l_word.m T.l_word.F.kp T.l_word.b .nil pass0 (pa_cons (pv 22) (pa_cons (pv 8) pa_nil))) (pa_cons (pe_ix (ix_listK K) (pe_lst (pa_cons pe_str (pa_cons pe_str pa_nil))) (pe_op op_mod (pe_op op_fdiv (pe_call (ok_l_mix T) (hr.mono (by decide)) (by rfl) T.l_mix.m T.l_mix.F.kp T.l_mix.b .nil pass0 (pa_cons (pv 0) (pa_cons (pe_op op_add (pv 1) (pv 8)) pa_nil))) pe_int) pe_int) (fun _ _ => rfl)) pa_nil)))))
  (pss_one (ps_ret (pe_tup (pa_cons (pe_callTy call_tuple_of (by rfl) T.n_tuple (by decide +kernel) (pa_cons (pv 23) pa_nil)) (pa_cons (pe_callTy call_tuple_of (by rfl) T.n_tuple (by decide +kernel) (pa_cons (pv 19) pa_nil)) (pa_cons (pv 13) (pa_cons (pv 17) pa_nil)))))))))))))))))))))))))), fun as R hD He σ Q E k => ?_⟩
  · obtain ⟨is, first, n, many, rfl, _⟩ := hD
    rfl
  · obtain ⟨is, first, n, many, rfl, hn, hn3, hm3, rfl⟩ := hD
    refine q_setL E (xl_call (D := D_l_order) (xa_r (xr_rdl rfl) (xa_d (xd_var rfl) (xa_d (xd_var rfl) xa_nil))) ⟨_, _, _, rfl, by omega, rfl⟩) fun a4 σ H e E => ?_
    refine q_set E (xd_mulN (a := 2) xd_int (xd_var rfl) (.inl (by decide))) fun σ H e E => ?_
    refine q_set E (xd_call (D := D_l_mix) (xa_r (xr_rdl rfl) (xa_d (xd_addN (xd_var rfl) (xd_var rfl)) xa_nil)) ⟨_, _, rfl, rfl⟩) fun σ H e E => ?_
    refine q_setL E (xl_call (D := D_l_arrows) (xa_r (xr_rdl rfl) (xa_d (xd_addN (xd_addN (xd_var rfl) (xd_var rfl)) xd_int) (xa_d (xd_var rfl) (xa_d (xd_var rfl) xa_nil)))) ⟨_, _, _, _, rfl, by omega, by omega, rfl⟩) fun a7 σ H e E => ?_
    have hPO := pairs_ok is first n many hn hn3 hm3
    unfold pairsM at hPO
    have hcount : ∀ w, w < n → (orderM is first n).count w = 2 := fun w hw => by rw [order_count, if_pos hw]
    have hol := order_len is first n
    have hPB := arrows_base is (first + n + 1) (2 * n) (by omega) many
    have hPL := arr_len is (first + n + 1) (2 * n) many
    have E2 : Q3.Env K He H σ [.rdl (is.map .int), .dat (nat first), .dat (nat n), .dat (nat many), .lst a4 ((orderM is first n).map nat), .dat (nat (2 * n)), .dat (nat (mixM is (first + n))), .lst a7 ((arrowsM is (first + n + 1) (2 * n) many).map encP), .any, .any, .any, .any, .any, .any, .any, .any, .any, .any, .any, .any, .any, .any, .any, .any, .any, .any] [] :=
      E.wk (.same (.same (.same (.same (.same (.same (.same (.same (.drop (.drop (.drop (.drop (.drop (.drop (.drop (.drop (.drop (.drop (.drop (.drop (.drop (.drop (.drop (.drop (.drop (.drop .nil))))))))))))))))))))))))))
    clear E
    generalize orderM is first n = ord at hPO hcount hol E2
    generalize mixM is (first + n) = c at hPO E2
    generalize arrowsM is (first + n + 1) (2 * n) many = ps0 at hPO hPB hPL E2
    obtain ⟨b1, l1⟩ := pairs1_base (c := c) hPB
    refine q_cut (S := Addr) E2 (fun _ => True) (fun a7 => [.rdl (is.map .int), .dat (nat first), .dat (nat n), .dat (nat many), .lst a4 (ord.map nat), .dat (nat (2 * n)), .dat (nat c), .lst a7 ((pairs1M c (2 * n) ps0).map encP), .any, .any, .any, .any, .any, .any, .any, .any, .any, .any, .any, .any, .any, .any, .any, .any, .any, .any]) ?_ ?_
    · refine s_when E2 (xt_test (xd_eqN (xd_modN (xd_var rfl) xd_int (by decide)) xd_int)) (fun hb H e E => ?_) (fun hb H e E => ?_)
      · have e1 : pairs1M c (2 * n) ps0 = ps0 ++ ((List.range (2 * n - 1)).filter fun k => !decide ((k, k + 1) ∈ ps0)).map fun k => (k, k + 1) := if_pos (of_decide_eq_true hb)
        have hfl := List.length_filter_le (fun k => !decide ((k, k + 1) ∈ ps0)) (List.range (2 * n - 1))
        rw [List.length_range] at hfl
        refine s_setL E (ds := (pairs1M c (2 * n) ps0).map encP) (xl_is (xl_catV (ds := ps0.map encP) (es := (((List.range (2 * n - 1)).filter fun k => !decide ((k, k + 1) ∈ ps0)).map fun k => ((k, k + 1) : PrI)).map encP) rfl (xl_is (xl_lc (l := List.range (2 * n - 1)) (fun k => !decide ((k, k + 1) ∈ ps0)) (fun k => encP (k, k + 1)) (xi_range (xd_subN (xd_var rfl) xd_int (show 1 ≤ 2 * n by omega)) (by
            show 2 * n - 1 ≤ 100000
            omega)) (List.length_range).symm (by rw [List.length_range]; omega) trivial fun m x hx => (by
          obtain ⟨hm, e0⟩ := range_at hx
          subst e0
          exact ⟨_, _, gok_name, by decide, (xt_test (xd_is (xd_niD (d := encP (x, x + 1)) (xd_tup (xs_cons (xd_var rfl) (xs_cons (xd_addN (xd_var rfl) xd_int) xs_nil)) lenk) (xr_lst (ds := ps0.map encP) rfl) ((shpP _).ok (by decide)) (shPs _)) (by rw [any_of eqvP] <;> congr))), fun hb => (xd_tup (xs_cons (xd_var rfl) (xs_cons (xd_addN (xd_var rfl) xd_int) xs_nil)) lenk)⟩)) (by
          rw [List.map_map]
          rfl)) (by
          simp only [List.length_map]
          omega)) (by rw [e1, List.map_append])) fun a σ H e E => ⟨a, trivial, E⟩
      · have e1 : pairs1M c (2 * n) ps0 = ps0 := if_neg (of_decide_eq_false hb)
        refine ⟨a7, trivial, ?_⟩
        rw [e1]
        exact E
    · rintro a7 σ H _ E
      generalize pairs1M c (2 * n) ps0 = ps1 at hPO b1 l1 E
      have hpb := pairs2_base hol hcount b1
      refine q_for (S := Addr) (fun m _ => True) (fun m a7 => [.rdl (is.map .int), .dat (nat first), .dat (nat n), .dat (nat many), .lst a4 (ord.map nat), .dat (nat (2 * n)), .dat (nat c), .lst a7 ((pairs2M ord ps1 m).map encP), .any, .any, .any, .any, .any, .any, .any, .any, .any, .any, .any, .any, .any, .any, .any, .any, .any, .any]) a7 E (xi_range (xd_var rfl) (by omega)) trivial (.refl _) (fun _ _ _ _ => trivial) (fun m hm => gok_name) (fun G m a7 σ H hm _ E => ?_) (fun a7 σ H _ E => ?_)
      · obtain ⟨w1, w2, _, _, _, _⟩ := two_at (hcount m hm)
        have hl2 := (hpb m (by omega)).2.1
        refine q_set E (d := nat (oneM ord m)) (xd_idx (xr_lst rfl) (xd_var rfl) w1) fun σ H e E => ?_
        refine q_set E (d := nat (twoM ord m)) (xd_addN (xd_addN (xd_var rfl) xd_int) (xd_idx (ns := ord.drop (oneM ord m + 1)) (xr_new (xl_is (xl_slL (ds := ord.map nat) (xr_lst rfl) (xo_some (i := ((oneM ord m + 1 : Nat) : Int)) (xd_addN (xd_var rfl) xd_int)) xo_none) (cut_from (oneM ord m + 1)))) (xd_var rfl) w2)) fun σ H e E => ?_
        have es : pairs2M ord ps1 (m + 1) = ((pairs2M ord ps1 m).filter fun p => !decide (p = (oneM ord m, twoM ord m))) ++ [(oneM ord m, twoM ord m)] := rfl
        rw [es]
        have hfl := List.length_filter_le (fun p => !decide (p = (oneM ord m, twoM ord m))) (pairs2M ord ps1 m)
        generalize pairs2M ord ps1 m = ps at hl2 hfl E
        generalize oneM ord m = x at hfl E
        generalize twoM ord m = y at hfl E
        have E3 : Q3.Env K He H σ [.rdl (is.map .int), .dat (nat first), .dat (nat n), .dat (nat many), .lst a4 (ord.map nat), .dat (nat (2 * n)), .dat (nat c), .lst a7 (ps.map encP), .any, .dat (nat x), .dat (nat y), .any, .any, .any, .any, .any, .any, .any, .any, .any, .any, .any, .any, .any, .any, .any] G :=
          E.wk (.same (.same (.same (.same (.same (.same (.same (.same (.drop (.same (.same (.drop (.drop (.drop (.drop (.drop (.drop (.drop (.drop (.drop (.drop (.drop (.drop (.drop (.drop (.drop .nil))))))))))))))))))))))))))
        clear E
        refine s_setL E3 (ds := ((ps.filter fun p => !decide (p = (x, y))) ++ [(x, y)]).map encP) (xl_is (xl_cat (xl_lc (l := ps) (fun p => !decide (p = (x, y))) encP (xi_encO (0, 0) rfl) rfl (by omega) rfl fun j p hp => ⟨_, _, gok_name, by decide, (by
          rw [getD_of _ hp]
          exact xt_test (xd_is (xd_neD (d := encP p) (e := encP (x, y)) (xd_var rfl) (xd_tup (xs_cons (xd_var rfl) (xs_cons (xd_var rfl) xs_nil)) lenk) ((shpP _).ok (by decide)) ((shpP _).ok (by decide))) (by rw [eqvP]))), fun hb => (by
          rw [getD_of _ hp]
          exact xd_var rfl)⟩) (xl_lst (xs_cons (d := encP (x, y)) (xd_tup (xs_cons (xd_var rfl) (xs_cons (xd_var rfl) xs_nil)) lenk) xs_nil) lenk) (by
          rw [List.length_map]
          exact Nat.le_trans (Nat.add_le_add_right (List.length_filter_le _ _) 1) (show ps.length + 1 ≤ 100000 by omega))) (by rw [List.map_append] <;> rfl)) fun a σ H e E => ⟨a, trivial, ?_⟩
        exact E.wk (.same (.same (.same (.same (.same (.same (.same (.same (.drop (.drop (.drop (.drop (.drop (.drop (.drop (.drop (.drop (.drop (.drop (.drop (.drop (.drop (.drop (.drop (.drop (.drop .nil))))))))))))))))))))))))))
      · generalize pairs2M ord ps1 n = ps at hPO E
        have pl := hPO.pl
        refine q_nest (i := 4) (j := 11) (v := 20) E rfl (by decide) (by rw [List.length_map]; omega) fun A1 ts σ H e1 tl tnd _ hts E => ?_
        refine q_nest (i := 4) (j := 12) (v := 20) E rfl (by decide) (by rw [List.length_map]; omega) fun A2 fs σ H2 e2 fl fnd ffr hfs E => ?_
        have disj : ∀ a, a ∈ fs → a ∉ ts := fun a h1 h2 => by
          obtain ⟨d, hd⟩ := List.mem_iff_getElem?.mp h2
          have z := hts d a hd
          rw [ffr a h1] at z
          cases z
        rw [List.length_map, hol] at tl fl
        refine q_set E xd_int fun σ H3 e3 E => ?_
        refine q_set E (xd_modN (xd_divN (xd_var rfl) xd_int (by decide)) xd_int (by decide)) fun σ H4 e4 E => ?_
        have hb20 : c / 3 % 20 < 20 := Nat.mod_lt _ (by decide)
        have E5 : Q3.Env K He H4 σ [.rdl (is.map .int), .dat (nat first), .dat (nat n), .dat (nat many), .lst a4 (ord.map nat), .dat (nat (2 * n)), .dat (nat c), .lst a7 (ps.map encP), .any, .any, .any, .own A1 (outOk ts), .own A2 (outOk fs), .dat (nat 0), .dat (nat (c / 3 % 20)), .any, .any, .any, .any, .any, .any, .any, .any, .any, .any, .any] (fs.map gfree ++ (ts.map gfree ++ [])) :=
          E.wk (.same (.same (.same (.same (.same (.same (.same (.same (.drop (.drop (.drop (.same (.same (.same (.same (.drop (.drop (.drop (.drop (.drop (.drop (.drop (.drop (.drop (.drop (.drop .nil))))))))))))))))))))))))))
        clear E
        generalize c / 3 % 20 = base at hb20 E5
        refine q_ (s_forJ (S := Unit) (i := 7) (a := a7) (ds := ps.map encP) (f := fun m => encP (ps.getD m (0, 0))) (fun _ _ => True) (fun m _ H => Ins H ts (tkR (ps.take m) base) ∧ Ins H fs (flR (ps.take m) base)) (fun m _ => [.rdl (is.map .int), .dat (nat first), .dat (nat n), .dat (nat many), .lst a4 (ord.map nat), .dat (nat (2 * n)), .dat (nat c), .lst a7 (ps.map encP), .any, .any, .any, .own A1 (outOk ts), .own A2 (outOk fs), .dat (nat (marksB m base (startB m))), .dat (nat (base + 2 * m)), .any, .any, .any, .any, .any, .any, .any, .any, .any, .any, .any]) () E5 (fun _ _ _ _ => rfl) (fun m d hd => by rw [map_getD (e := fun _ => encP) (0, 0) m d hd]) trivial ⟨(hts.ex ((e2.trans e3).trans e4)), hfs.ex (e3.trans e4)⟩ (.refl _) (fun m hm => gok2) (fun m _ σ H5 hm _ jj E => ?_) (fun _ σ H5 _ jj E => ?_))
        · rw [List.length_map] at hm
          have hp := at_getD ((0, 0) : PrI) hm
          generalize ps.getD m (0, 0) = p at hp E
          obtain ⟨p1, p2, pne⟩ := hPO.pb p (List.mem_of_getElem? hp)
          obtain ⟨j1, j2⟩ := jj
          obtain ⟨ft1, hft1⟩ : ∃ a, fs[p.1]? = some a := ⟨_, List.getElem?_eq_getElem (by omega)⟩
          obtain ⟨ft2, hft2⟩ : ∃ a, fs[p.2]? = some a := ⟨_, List.getElem?_eq_getElem (by omega)⟩
          obtain ⟨tt1, htt1⟩ : ∃ a, ts[p.1]? = some a := ⟨_, List.getElem?_eq_getElem (by omega)⟩
          obtain ⟨tt2, htt2⟩ : ∃ a, ts[p.2]? = some a := ⟨_, List.getElem?_eq_getElem (by omega)⟩
          have pbne : ∀ q ∈ ps.take m, q.1 ≠ q.2 := fun q hq => (hPO.pb q (List.mem_of_mem_take hq)).2.2
          have len : ∀ d, (tkR (ps.take m) base d).length ≤ 11 ∧ (flR (ps.take m) base d).length ≤ 11 := fun d => by
            obtain ⟨z1, z2⟩ := tkR_len (d := d) (s := base) pbne
            rw [List.length_take] at z1 z2
            omega
          have E6 : Q3.Env K He H5 σ [.rdl (is.map .int), .dat (nat first), .dat (nat n), .dat (nat many), .lst a4 (ord.map nat), .dat (nat (2 * n)), .dat (nat c), .lst a7 (ps.map encP), .any, .any, .any, .own A1 (outOk ts), .own A2 (outOk fs), .dat (nat (marksB m base (startB m))), .dat (nat (base + 2 * m)), .dat (nat p.1), .dat (nat p.2), .any, .any, .any, .any, .any, .any, .any, .any, .any] (fs.map gfree ++ (ts.map gfree ++ [])) :=
            E.wk (.same (.same (.same (.same (.same (.same (.same (.same (.drop (.drop (.drop (.same (.same (.same (.same (.same (.same (.drop (.drop (.drop (.drop (.drop (.drop (.drop (.drop (.drop .nil))))))))))))))))))))))))))
          clear E
          have len1 := len p.1
          have len2 := len p.2
          refine q_nap (s := 12) (i := 15) (x := base + 2 * m) E6 rfl rfl hft1 gf_free (gf_l (List.mem_of_getElem? hft1)) (j2 _ _ hft1) (by omega) (xd_var rfl) fun H6 E g1 k1 => ?_
          have j3 := j1.keep (disj _ (List.mem_of_getElem? hft1)) k1
          have j4 : Ins H6 fs (fun d => flR (ps.take m) base d ++ (if p.1 = d then [base + 2 * m] else [])) := j2.app fnd hft1 g1 k1 (by rw [if_pos rfl]) fun d hd => by rw [if_neg (fun z => hd z.symm), List.append_nil]
          refine q_nap (s := 11) (i := 16) (x := base + 2 * m) E rfl rfl htt2 gf_free (gf_r (List.mem_of_getElem? htt2)) (j3 _ _ htt2) (by omega) (xd_var rfl) fun H7 E g2 k2 => ?_
          have j5 : Ins H7 ts (fun d => tkR (ps.take m) base d ++ (if p.2 = d then [base + 2 * m] else [])) := j3.app tnd htt2 g2 k2 (by rw [if_pos rfl]) fun d hd => by rw [if_neg (fun z => hd z.symm), List.append_nil]
          have j6 := j4.keep (fun z => disj _ z (List.mem_of_getElem? htt2)) k2
          have q6 := j6 _ _ hft2
          dsimp only at q6
          rw [if_neg pne, List.append_nil] at q6
          refine q_nap (s := 12) (i := 16) (x := base + 2 * m + 1) E rfl rfl hft2 gf_free (gf_l (List.mem_of_getElem? hft2)) q6 (by omega) (xd_addN (xd_var rfl) xd_int) fun H8 E g3 k3 => ?_
          have j7 := j5.keep (disj _ (List.mem_of_getElem? hft2)) k3
          have j8 : Ins H8 fs (flR (ps.take (m + 1)) base) := j6.app fnd hft2 (n := p.2) (x := base + 2 * m + 1) (by
            rw [if_neg pne, List.append_nil]
            exact g3) k3 (by
            rw [flR_more hp]
            unfold flQ
            rw [if_neg pne, if_pos rfl, List.append_nil, List.nil_append]) fun d hd => by
              rw [flR_more hp]
              unfold flQ
              rw [if_neg (show ¬ p.2 = d from fun z => hd z.symm), List.append_nil]
          have q7 := j7 _ _ htt1
          dsimp only at q7
          rw [if_neg (fun z => pne z.symm), List.append_nil] at q7
          refine q_nap (s := 11) (i := 15) (x := base + 2 * m + 1) E rfl rfl htt1 gf_free (gf_r (List.mem_of_getElem? htt1)) q7 (by omega) (xd_addN (xd_var rfl) xd_int) fun H9 E g4 k4 => ?_
          have j9 : Ins H9 ts (tkR (ps.take (m + 1)) base) := j7.app tnd htt1 (n := p.1) (x := base + 2 * m + 1) (by
            rw [if_neg (fun z => pne z.symm), List.append_nil]
            exact g4) k4 (by
            rw [tkR_more hp]
            unfold tkQ
            rw [if_neg (fun z => pne z.symm), if_pos rfl, List.append_nil, List.nil_append]) fun d hd => by
              rw [tkR_more hp]
              unfold tkQ
              rw [if_neg (show ¬ p.1 = d from fun z => hd z.symm), List.append_nil]
          have j10 := j8.keep (fun z => disj _ z (List.mem_of_getElem? htt1)) k4
          refine q_set E (d := nat (marksB (m + 1) base (startB (m + 1)))) (xd_is (xd_or (xd_var rfl) (xd_shl1 xd_int (xd_addN (xd_var rfl) xd_int) (by
            show base + 2 * m + 1 ≤ 1000000
            omega))) (by rw [marks_more])) fun σ H10 e10 E => ?_
          refine s_set E (d := nat (base + 2 * (m + 1))) (xd_is (xd_addN (a := base + 2 * m) (b := 2) (xd_var rfl) xd_int) (by rw [show base + 2 * (m + 1) = base + 2 * m + 2 by omega])) fun σ H11 e11 E => ⟨(), trivial, ⟨j9.ex (e10.trans e11), j10.ex (e10.trans e11)⟩, ?_⟩
          exact E.wk (.same (.same (.same (.same (.same (.same (.same (.same (.drop (.drop (.drop (.same (.same (.same (.same (.drop (.drop (.drop (.drop (.drop (.drop (.drop (.drop (.drop (.drop (.drop .nil))))))))))))))))))))))))))
        · rw [List.length_map, List.take_length] at jj
          rw [List.length_map] at E
          obtain ⟨j1, j2⟩ := jj
          have h1n : 0 < 1 <<< n := by
            rw [Nat.one_shiftLeft]
            exact Nat.two_pow_pos n
          refine q_set E (xd_modN (xd_divN (xd_var rfl) xd_int (by decide)) (xd_shl1 xd_int (xd_var rfl) (by omega)) h1n) fun σ H6 e6 E => ?_
          have hcode : c / 60 % (1 <<< n) < 2 ^ n := by
            rw [← Nat.one_shiftLeft]
            exact Nat.mod_lt _ h1n
          generalize c / 60 % (1 <<< n) = code at hcode E
          refine q_set E (xd_var rfl) fun σ H7 e7 E => ?_
          refine q_setL E (xl_lst xs_nil lenk) fun b σ H8 e8 E => ?_
          have j3 := j1.ex ((e6.trans e7).trans e8)
          have j4 := j2.ex ((e6.trans e7).trans e8)
          have E9 : Q3.Env K He H8 σ [.rdl (is.map .int), .dat (nat first), .dat (nat n), .dat (nat many), .lst a4 (ord.map nat), .dat (nat (2 * n)), .dat (nat c), .any, .any, .any, .any, .own A1 (outOk ts), .own A2 (outOk fs), .dat (nat (marksB ps.length base (startB ps.length))), .any, .any, .any, .dat (nat code), .dat (nat code), .lst b (((List.range 0).map (deedS ord ps base code)).map encS), .any, .any, .any, .any, .any, .any] (fs.map gfree ++ (ts.map gfree ++ [])) :=
            E.wk (.same (.same (.same (.same (.same (.same (.same (.drop (.drop (.drop (.drop (.same (.same (.same (.drop (.drop (.drop (.same (.same (.same (.drop (.drop (.drop (.drop (.drop (.drop .nil))))))))))))))))))))))))))
          clear E
          have pbne : ∀ q ∈ ps, q.1 ≠ q.2 := fun q hq => (hPO.pb q hq).2.2
          refine q_ (s_forJE (S := Unit) (i := 4) (a := a4) (ds := ord.map nat) (f := fun m => .tuple [nat m, nat (ord.getD m 0)]) (fun _ _ => True) (fun _ _ H => Ins H ts (tkR ps base) ∧ Ins H fs (flR ps base)) (fun m _ => [.rdl (is.map .int), .dat (nat first), .dat (nat n), .dat (nat many), .lst a4 (ord.map nat), .dat (nat (2 * n)), .dat (nat c), .any, .any, .any, .any, .own A1 (outOk ts), .own A2 (outOk fs), .dat (nat (marksB ps.length base (startB ps.length))), .any, .any, .any, .dat (nat code), .dat (nat (seenM ord code m)), .lst b (((List.range m).map (deedS ord ps base code)).map encS), .any, .any, .any, .any, .any, .any]) () E9 (fun _ _ _ _ => rfl) (fun m d hd => by rw [map_getD (e := fun _ => nat) 0 m d hd]) (fun _ _ _ _ e jj => ⟨jj.1.ex e, jj.2.ex e⟩) trivial ⟨j3, j4⟩ (.refl _) (fun m hm => gok2) (fun m _ σ H9 hm _ jj E => ?_) (fun _ σ H9 _ jj E => ?_))
          · rw [List.length_map] at hm
            have hx := at_getD 0 hm
            generalize ord.getD m 0 = w at hx E
            have hw : w < n := hPO.ow w (List.mem_of_getElem? hx)
            obtain ⟨tt, htt⟩ : ∃ a, ts[m]? = some a := ⟨_, List.getElem?_eq_getElem (by omega)⟩
            obtain ⟨ft, hft⟩ : ∃ a, fs[m]? = some a := ⟨_, List.getElem?_eq_getElem (by omega)⟩
            obtain ⟨z1, z2⟩ := tkR_len (d := m) (s := base) pbne
            have E10 : Q3.Env K He H9 σ [.rdl (is.map .int), .dat (nat first), .dat (nat n), .dat (nat many), .lst a4 (ord.map nat), .dat (nat (2 * n)), .dat (nat c), .any, .dat (nat w), .any, .any, .own A1 (outOk ts), .own A2 (outOk fs), .dat (nat (marksB ps.length base (startB ps.length))), .any, .any, .any, .dat (nat code), .dat (nat (seenM ord code m)), .lst b (((List.range m).map (deedS ord ps base code)).map encS), .dat (nat m), .any, .any, .any, .any, .any] (fs.map gfree ++ (ts.map gfree ++ [])) :=
              E.wk (.same (.same (.same (.same (.same (.same (.same (.drop (.same (.drop (.drop (.same (.same (.same (.drop (.drop (.drop (.same (.same (.same (.same (.drop (.drop (.drop (.drop (.drop .nil))))))))))))))))))))))))))
            clear E
            refine q_appE E10 rfl (d := encS (deedS ord ps base code m)) (by
              rw [deed_eq hx]
              exact ev_tup4 (ev_of E10 (xd_var rfl)) (ev_of E10 (xd_eqN (xd_and (xd_shr (xd_var rfl) (xd_var rfl)) xd_int) xd_int)) (ev_nsort (s := 11) (i := 20) E10 rfl rfl htt (jj.1 _ _ htt) (by omega)) (ev_nsort (s := 12) (i := 20) E10 rfl rfl hft (jj.2 _ _ hft) (by omega))) (by
              rw [List.length_map, List.length_map, List.length_range]
              omega) fun H10 E k1 => ?_
            have nt : b ∉ ts := fun z => E10.apart (i := 19) rfl (gf_r z) rfl
            have nf : b ∉ fs := fun z => E10.apart (i := 19) rfl (gf_l z) rfl
            refine s_set E (d := nat (seenM ord code (m + 1))) (xd_is (xd_xor (xd_var rfl) (xd_shl1 xd_int (xd_var rfl) (by omega))) (by rw [seen_more hx])) fun σ H11 e11 E => ⟨(), trivial, ⟨(jj.1.keep nt k1).ex e11, (jj.2.keep nf k1).ex e11⟩, ?_⟩
            have er : ((List.range (m + 1)).map (deedS ord ps base code)).map encS = ((List.range m).map (deedS ord ps base code)).map encS ++ [encS (deedS ord ps base code m)] := by
              rw [List.range_succ, List.map_append, List.map_append]
              rfl
            rw [er]
            exact E.wk (.same (.same (.same (.same (.same (.same (.same (.drop (.drop (.drop (.drop (.same (.same (.same (.drop (.drop (.drop (.same (.same (.same (.drop (.drop (.drop (.drop (.drop (.drop .nil))))))))))))))))))))))))))
          · rw [List.length_map, hol] at E
            refine q_set E (xd_modN (xd_divN (xd_var rfl) xd_int (by decide)) (xd_var rfl) (by omega)) fun σ H6 e6 E => ?_
            generalize c / 2000 % (2 * n) = t at E
            have hdl : ((List.range (2 * n)).map (deedS ord ps base code)).length = 2 * n := by rw [List.length_map, List.length_range]
            have hdm : ∀ s ∈ (List.range (2 * n)).map (deedS ord ps base code), ∃ d, d < 2 * n ∧ s = deedS ord ps base code d := fun s hs => by
              obtain ⟨d, hd, rfl⟩ := List.mem_map.mp hs
              exact ⟨d, List.mem_range.mp hd, rfl⟩
            generalize (List.range (2 * n)).map (deedS ord ps base code) = deeds at hdl hdm E
            refine q_setL E (ds := (deeds.drop t ++ deeds.take t).map encS) (xl_is (xl_cat (xl_is (xl_slL (ds := deeds.map encS) (xr_lst rfl) (xo_some (i := ((t : Nat) : Int)) (xd_var rfl)) xo_none) (cut_from t)) (xl_is (xl_slL (ds := deeds.map encS) (xr_lst rfl) xo_none (xo_some (i := ((t : Nat) : Int)) (xd_var rfl))) (cut_to t)) (by
              rw [List.length_map, List.length_map, List.length_drop, List.length_take]
              omega)) (by rw [List.map_append])) fun b σ H7 e7 E => ?_
            refine q_set E (xd_divN (xd_var rfl) xd_int (by decide)) fun σ H8 e8 E => ?_
            have E10 : Q3.Env K He H8 σ [.rdl (is.map .int), .dat (nat first), .dat (nat n), .any, .any, .any, .any, .any, .any, .any, .any, .any, .any, .dat (nat (marksB ps.length base (startB ps.length))), .any, .any, .any, .dat (nat code), .any, .lst b ((deeds.drop t ++ deeds.take t).map encS), .any, .any, .dat (nat (c / 40000)), .any, .any, .any] (fs.map gfree ++ (ts.map gfree ++ [])) :=
              E.wk (.same (.same (.same (.drop (.drop (.drop (.drop (.drop (.drop (.drop (.drop (.drop (.drop (.same (.drop (.drop (.drop (.same (.drop (.same (.drop (.drop (.same (.drop (.drop (.drop .nil))))))))))))))))))))))))))
            clear E
            generalize c / 40000 = wh at E10
            refine q_setL E10 (ds := ((List.range n).map fun w => ((wordM wh w, if mixM is (first + w) / 4096 % 2 = 0 then "given" else "made") : Str × Str)).map encW) (xl_is (xl_lcAll (l := List.range n) (fun w => encW (wordM wh w, if mixM is (first + w) / 4096 % 2 = 0 then "given" else "made")) (xi_range (xd_var rfl) (by omega)) (List.length_range).symm (by rw [List.length_range]; omega) trivial fun m x hx => (by
              obtain ⟨hm, e0⟩ := range_at hx
              subst e0
              refine ⟨_, _, gok_name, by decide, (xd_tup (xs_cons (xd_call (D := D_l_word) (xa_d (xd_var rfl) (xa_d (xd_var rfl) xa_nil)) ⟨_, _, rfl, by omega, rfl⟩) (xs_cons (d := .str (if mixM is (first + x) / 4096 % 2 = 0 then "given" else "made")) (xd_atL (xr_new (xl_lst (xs_cons xd_str (xs_cons xd_str xs_nil)) lenk)) (xd_modN (xd_divN (xd_call (D := D_l_mix) (xa_r (xr_rdl rfl) (xa_d (xd_addN (xd_var rfl) (xd_var rfl)) xa_nil)) ⟨_, _, rfl, rfl⟩) xd_int (by decide)) xd_int (by decide)) ?_) xs_nil)) lenk)⟩
              rcases (show mixM is (first + x) / 4096 % 2 = 0 ∨ mixM is (first + x) / 4096 % 2 = 1 by omega) with q | q
              · rw [q]
                rfl
              · rw [q]
                rfl)) (by
              rw [List.map_map]
              rfl)) fun wa σ H9 e9 E => ?_
            have hwl : ((List.range n).map fun w => ((wordM wh w, if mixM is (first + w) / 4096 % 2 = 0 then "given" else "made") : Str × Str)).length = n := by rw [List.length_map, List.length_range]
            generalize ((List.range n).map fun w => ((wordM wh w, if mixM is (first + w) / 4096 % 2 = 0 then "given" else "made") : Str × Str)) = wires at hwl E
            have hsl : (deeds.drop t ++ deeds.take t).length = 2 * n := by
              rw [List.length_append, List.length_drop, List.length_take]
              omega
            have hsm : ∀ s ∈ deeds.drop t ++ deeds.take t, ∃ d, d < 2 * n ∧ s = deedS ord ps base code d := fun s hs => by
              rcases List.mem_append.mp hs with hs | hs
              · exact hdm s (List.mem_of_mem_drop hs)
              · exact hdm s (List.mem_of_mem_take hs)
            generalize deeds.drop t ++ deeds.take t = steps at hsl hsm E
            refine s_ret E (d := encG ⟨wires, steps, marksB ps.length base (startB ps.length), code⟩) (xd_tup (xs_cons (xd_tupOf (xr_lst rfl)) (xs_cons (xd_tupOf (xr_lst rfl)) (xs_cons (xd_var rfl) (xs_cons (xd_var rfl) xs_nil)))) lenk) fun v H' e t => k v H' e ⟨_, ⟨_, rfl, hPO.good hwl hn3 hb20 hcode (by omega) hsm rfl, ?_, ?_, ?_⟩, t⟩
            · show 1 ≤ wires.length
              omega
            · show wires.length ≤ 5
              omega
            · show 2 ≤ steps.length
              omega
end

end Q3

namespace Q3
open PySem L2 Evl
/-! ## drawing: any_graph -/
def IsG2 (d : PyData) : Prop := ∃ g : Gr, d = encG g ∧ GoodG 64 13 g ∧ 1 ≤ g.wires.length
def D_l_any_graph : List SD → Res → Prop := fun as R => ∃ (is : List Int) (first : Nat), as = [.rdl (is.map .int), .dat (nat first), .dat (nat 3), .dat (nat 3)] ∧ R = RQ IsG2
def manyG (w j : Nat) : Nat := [0, 0, 0, 0, 1, 1, 2, 10 - w].getD j 0
theorem manyG_le {w j : Nat} (h : w ≤ 5) : manyG w j ≤ 10 - w := by
  unfold manyG
  match j with
  | 0 => exact Nat.zero_le _
  | 1 => exact Nat.zero_le _
  | 2 => exact Nat.zero_le _
  | 3 => exact Nat.zero_le _
  | 4 => show 1 ≤ 10 - w; omega
  | 5 => show 1 ≤ 10 - w; omega
  | 6 => show 2 ≤ 10 - w; omega
  | 7 => exact Nat.le_refl _
  | j + 8 => exact Nat.zero_le _
theorem manyG_at {w j : Nat} (h : j < 8) : [PyData.int 0, .int 0, .int 0, .int 0, .int 1, .int 1, .int 2, nat (10 - w)][j]? = some (nat (manyG w j)) := by
  match j, h with
  | 0, _ => rfl
  | 1, _ => rfl
  | 2, _ => rfl
  | 3, _ => rfl
  | 4, _ => rfl
  | 5, _ => rfl
  | 6, _ => rfl
  | 7, _ => rfl
theorem kind_of (j : Nat) : [PyData.str "given", .str "made"][j % 2]? = some (.str (if j % 2 = 0 then "given" else "made")) := by
  rcases (show j % 2 = 0 ∨ j % 2 = 1 by omega) with q | q
  · rw [q]
    rfl
  · rw [q]
    rfl
def tens : Str := "abcdefghij"
section
variable {P : Program} {w : World} {K : PySem.W.Frag} {mg : Str → Option Value} {base : Heap} {C : Addr} {f : Nat → Addr} {fd : Nat → FuncData} {xc : Nat → Addr}
theorem ok_l_any_graph (T : Top K mg C f fd xc) : FnOk P w K mg base CX0 4 (f 29) (fd 29) ["_law_script", "_law_first", "_law_most", "_law_arrows_here"] (spG K D_l_any_graph) := by
  refine Fun.pure T.l_any_graph.F sc_l_any_graph (fun as R hD => ?_) (by decide) fun cdv A outer s H E hr => ⟨_, (pss_cons (ps_set (i := 4) sc_l_any_graph.nd rfl (Or.inl rfl) (pe_call (ok_l_mix T) (hr.mono (by decide)) (by rfl) T.l_mix.m T.l_mix.F.kp T.l_mix.b .nil pass0 (pa_cons (pv 0) (pa_cons (pv 1) pa_nil))))
  (pss_cut (ps_if (pt_cmpR op_eq (pe_op op_mod (pv 4) pe_int) pe_int (nomark _)) (pss_one (ps_set (i := 5) sc_l_any_graph.nd rfl (Or.inl rfl) (pe_call (ok_l_choice T) (hr.mono (by decide)) (by rfl) T.l_choice.m T.l_choice.F.kp T.l_choice.b .nil pass0 (pa_cons (pv 0) (pa_cons (pe_op op_add (pv 1) pe_int) pa_nil))))) (pss_one (ps_set (i := 5) sc_l_any_graph.nd rfl (Or.inl rfl) (pe_call (ok_l_graph T) (hr.mono (by decide)) (by rfl) T.l_graph.m T.l_graph.F.kp T.l_graph.b .nil pass0 (pa_cons (pv 0) (pa_cons (pe_op op_add (pv 1) pe_int) (pa_cons (pe_op op_add pe_int (pe_op op_mod (pe_op op_fdiv (pv 4) pe_int) (pv 2))) (pa_cons (pe_op op_mod (pe_op op_fdiv (pv 4) pe_int) (pe_op op_add (pv 3) pe_int)) pa_nil))))))))
  (pss_cons (ps_set (i := 6) sc_l_any_graph.nd rfl (Or.inl rfl) (pe_op op_fdiv (pv 4) pe_int))
  (pss_cut (ps_if (pt_cmpR op_eq (pe_op op_mod (pv 6) pe_int) pe_int (nomark _)) (pss_cons (ps_set (i := 7) sc_l_any_graph.nd rfl (Or.inl rfl) (pe_op op_mod (pe_op op_fdiv (pv 6) pe_int) (pe_callB call_len_seq (by rfl) T.n_len (by decide +kernel) (pa_cons (pe_ix ix_tup (pv 5) pe_int (fun _ _ => rfl)) pa_nil))))
  (pss_one (ps_set (i := 5) sc_l_any_graph.nd rfl (Or.inl rfl) (pe_tup (pa_cons (pe_ix ix_tup (pv 5) pe_int (fun _ _ => rfl)) (pa_cons (pe_op op_catA (pe_slice sl_tupA (pe_ix ix_tup (pv 5) pe_int (fun _ _ => rfl)) po_none (po_some (pv 7))) (pe_slice sl_tupA (pe_ix ix_tup (pv 5) pe_int (fun _ _ => rfl)) (po_some (pe_op op_add (pv 7) pe_int)) po_none)) (pa_cons (pe_ix ix_tup (pv 5) pe_int (fun _ _ => rfl)) (pa_cons (pe_ix ix_tup (pv 5) pe_int (fun _ _ => rfl)) pa_nil)))))))) pss_nil)
  (pss_cons (ps_set (i := 8) sc_l_any_graph.nd rfl (Or.inl rfl) (pe_ix ix_list (pe_lst (pa_cons pe_int (pa_cons pe_int (pa_cons pe_int (pa_cons pe_int (pa_cons pe_int (pa_cons pe_int (pa_cons pe_int (pa_cons (pe_op op_sub pe_int (pe_callB call_len_seq (by rfl) T.n_len (by decide +kernel) (pa_cons (pe_ix ix_tup (pv 5) pe_int (fun _ _ => rfl)) pa_nil))) pa_nil))))))))) (pe_op op_mod (pe_op op_fdiv (pv 6) pe_int) pe_int) (fun _ _ => rfl)))
  (pss_cons (ps_for PassesOwn.never rfl (pi_range1 rfl T.n_range (pa_cons (pv 8) pa_nil)) (pg_name (i := 9) sc_l_any_graph.nd rfl (Or.inl rfl))
  (pss_cons (ps_set (i := 10) sc_l_any_graph.nd rfl (Or.inl rfl) (pe_op op_mod (pe_op op_add (pe_op op_fdiv (pv 6) pe_int) (pe_op op_mul pe_int (pv 9))) (pe_op op_add (pe_callB call_len_seq (by rfl) T.n_len (by decide +kernel) (pa_cons (pe_ix ix_tup (pv 5) pe_int (fun _ _ => rfl)) pa_nil)) pe_int)))
  (pss_cons (ps_set (i := 11) sc_l_any_graph.nd rfl (Or.inl rfl) (pe_ix ix_list (pe_lst (pa_cons pe_str (pa_cons pe_str pa_nil))) (pe_op op_mod (pe_op op_add (pe_op op_fdiv (pv 6) pe_int) (pv 9)) pe_int) (fun _ _ => rfl)))
  (pss_one (ps_set (i := 5) sc_l_any_graph.nd rfl (Or.inl rfl) (pe_call (ok_l_wider T) (hr.mono (by decide)) (by rfl) T.l_wider.m T.l_wider.F.kp T.l_wider.b .nil pass0 (pa_cons (pv 5) (pa_cons (pv 10) (pa_cons (pv 11) (pa_cons (pe_cmpR op_eq (pe_op op_mod (pe_op op_add (pe_op op_fdiv (pv 6) pe_int) (pe_op op_fdiv (pv 9) pe_int)) pe_int) pe_int (nomark _)) (pa_cons (pe_ix ix_str pe_str (pv 9) (fun _ _ => rfl)) pa_nil)))))))))))
  (pss_cons (ps_if (pt_cmpR op_eq (pe_op op_mod (pe_op op_fdiv (pv 6) pe_int) pe_int) pe_int (nomark _)) (pss_one (ps_set (i := 5) sc_l_any_graph.nd rfl (Or.inl rfl) (pe_call (ok_l_lookers T) (hr.mono (by decide)) (by rfl) T.l_lookers.m T.l_lookers.F.kp T.l_lookers.b .nil pass0 (pa_cons (pv 5) (pa_cons (pe_op op_fdiv (pv 4) pe_int) pa_nil))))) pss_nil)
  (pss_one (ps_ret (pv 5)))))))))), fun as R hD He σ Q E k => ?_⟩
  · obtain ⟨is, first, rfl, _⟩ := hD
    rfl
  · obtain ⟨is, first, rfl, rfl⟩ := hD
    refine q_set E (xd_call (D := D_l_mix) (xa_r (xr_rdl rfl) (xa_d (xd_var rfl) xa_nil)) ⟨_, _, rfl, rfl⟩) fun σ H e E => ?_
    generalize mixM is first = c at E
    refine q_cut (S := Gr) E (fun g => GoodG 43 12 g ∧ 1 ≤ g.wires.length ∧ g.wires.length ≤ 5 ∧ 2 ≤ g.steps.length) (fun g => [.rdl (is.map .int), .dat (nat first), .dat (nat 3), .dat (nat 3), .dat (nat c), .dat (encG g), .any, .any, .any, .any, .any, .any]) ?_ ?_
    · refine s_if E (xt_test (xd_eqN (xd_modN (xd_var rfl) xd_int (by decide)) xd_int)) (fun hb H e E => ?_) (fun hb H e E => ?_)
      · refine s_setQ E (P := IsGood 43 12 5) (xq_call (D := D_l_choice) (xa_r (xr_rdl rfl) (xa_d (xd_addN (xd_var rfl) xd_int) xa_nil)) ⟨_, _, rfl, rfl⟩) fun d σ H hd e E => ?_
        obtain ⟨g, rfl, h1, h2, h3, h4⟩ := hd
        exact ⟨g, ⟨h1, h2, h3, h4⟩, E⟩
      · refine s_setQ E (P := IsGood 43 12 5) (xq_call (D := D_l_graph) (xa_r (xr_rdl rfl) (xa_d (xd_addN (xd_var rfl) xd_int) (xa_d (xd_addN xd_int (xd_modN (xd_divN (xd_var rfl) xd_int (by decide)) (xd_var rfl) (by decide))) (xa_d (xd_modN (xd_divN (xd_var rfl) xd_int (by decide)) (xd_addN (xd_var rfl) xd_int) (by decide)) xa_nil)))) ⟨_, _, _, _, rfl, (show 0 < 1 + c / 3 % 3 by omega), (show 1 + c / 3 % 3 ≤ 3 by omega), (show c / 30 % 4 ≤ 3 by omega), rfl⟩) fun d σ H hd e E => ?_
        obtain ⟨g, rfl, h1, h2, h3, h4⟩ := hd
        exact ⟨g, ⟨h1, h2, h3, h4⟩, E⟩
    · rintro g σ H ⟨h1, h2, h3, h4⟩ E
      refine q_set E (xd_divN (xd_var rfl) xd_int (by decide)) fun σ H e E => ?_
      generalize c / 1000 = mo at E
      refine q_cut (S := Gr) E (fun g => GoodG 43 12 g ∧ 1 ≤ g.wires.length ∧ g.wires.length ≤ 5) (fun g => [.any, .any, .any, .any, .dat (nat c), .dat (encG g), .dat (nat mo), .any, .any, .any, .any, .any]) ?_ ?_
      · refine s_when E (xt_test (xd_eqN (xd_modN (xd_var rfl) xd_int (by decide)) xd_int)) (fun hb H e E => ?_) (fun hb H e E => ?_)
        · have hlt := Nat.mod_lt (mo / 4) (show 0 < g.steps.length by omega)
          refine q_set E (d := nat (mo / 4 % g.steps.length)) (xd_modN (xd_divN (xd_var rfl) xd_int (by decide)) (xd_len (xd_at (xd_var rfl) xd_int rfl) (List.length_map _)) (by omega)) fun σ H e E => ?_
          generalize mo / 4 % g.steps.length = t at hlt E
          have sl := h1.sl
          refine s_set E (d := encG (cutG g t)) (xd_is (xd_tup (xs_cons (xd_at (xd_var rfl) xd_int rfl) (xs_cons (xd_catT (xd_slT (ds := g.steps.map encS) (xd_at (xd_var rfl) xd_int rfl) xo_none (xo_some (i := ((t : Nat) : Int)) (xd_var rfl))) (xd_slT (ds := g.steps.map encS) (xd_at (xd_var rfl) xd_int rfl) (xo_some (i := ((t + 1 : Nat) : Int)) (xd_addN (xd_var rfl) xd_int)) xo_none) (by
            rw [cut_to, cut_from, List.length_map, List.length_map, List.length_take, List.length_drop]
            omega)) (xs_cons (xd_at (xd_var rfl) xd_int rfl) (xs_cons (xd_at (xd_var rfl) xd_int rfl) xs_nil)))) lenk) (by
            rw [cut_to, cut_from]
            unfold encG cutG
            rw [List.map_append])) fun σ H e E => ⟨cutG g t, ⟨h1.cut t, h2, h3⟩, ?_⟩
          exact E.wk (.drop (.drop (.drop (.drop (.same (.same (.same (.drop (.drop (.drop (.drop (.drop .nil))))))))))))
        · exact ⟨g, ⟨h1, h2, h3⟩, E.wk (.drop (.drop (.drop (.drop (.same (.same (.same (.drop (.drop (.drop (.drop (.drop .nil))))))))))))⟩
      · rintro g σ H ⟨h1, h2, h3⟩ E
        refine q_set E (d := nat (manyG g.wires.length (mo / 100 % 8))) (xd_atL (xr_new (xl_lst (xs_cons xd_int (xs_cons xd_int (xs_cons xd_int (xs_cons xd_int (xs_cons xd_int (xs_cons xd_int (xs_cons xd_int (xs_cons (xd_subN (a := 10) xd_int (xd_len (xd_at (xd_var rfl) xd_int rfl) (List.length_map _)) (by omega)) xs_nil)))))))) lenk)) (xd_modN (xd_divN (xd_var rfl) xd_int (by decide)) xd_int (by decide)) (manyG_at (Nat.mod_lt _ (by decide)))) fun σ H e E => ?_
        have hmy := manyG_le (j := mo / 100 % 8) h3
        generalize manyG g.wires.length (mo / 100 % 8) = mm at hmy E
        refine q_for (S := Gr) (fun m g => GoodG 43 12 g ∧ 1 ≤ g.wires.length ∧ g.wires.length + (mm - m) ≤ 10) (fun m g => [.any, .any, .any, .any, .dat (nat c), .dat (encG g), .dat (nat mo), .any, .any, .any, .any, .any]) g E (xi_range (xd_var rfl) (by omega)) ⟨h1, h2, by omega⟩ (.same (.same (.same (.same (.same (.same (.same (.same (.drop (.same (.same (.same .nil)))))))))))) (fun _ _ _ _ => trivial) (fun m hm => gok_name) (fun G m g σ H hm is_ E => ?_) (fun g σ H is_ E => ?_)
        · obtain ⟨h1, h2, h4⟩ := is_
          have wl := h1.wl
          refine q_set E (xd_modN (xd_addN (xd_divN (xd_var rfl) xd_int (by decide)) (xd_mulN (a := 7) xd_int (xd_var rfl) (.inl (by decide)))) (xd_addN (xd_len (xd_at (xd_var rfl) xd_int rfl) (List.length_map _)) xd_int) (Nat.succ_pos _)) fun σ H e E => ?_
          have hat : (mo / 800 + 7 * m) % (g.wires.length + 1) < g.wires.length + 1 := Nat.mod_lt _ (Nat.succ_pos _)
          generalize (mo / 800 + 7 * m) % (g.wires.length + 1) = t at hat E
          refine q_set E (d := .str (if (mo / 10000 + m) % 2 = 0 then "given" else "made")) (xd_atL (xr_new (xl_lst (xs_cons xd_str (xs_cons xd_str xs_nil)) lenk)) (xd_modN (xd_addN (xd_divN (xd_var rfl) xd_int (by decide)) (xd_var rfl)) xd_int (by decide)) (kind_of _)) fun σ H e E => ?_
          generalize (if (mo / 10000 + m) % 2 = 0 then "given" else "made" : Str) = kd at E
          have hcd : g.code < 2 ^ 64 := Nat.lt_of_lt_of_le h1.cd (Nat.pow_le_pow_right (by decide) (by omega))
          have hten : m < tens.cps.toList.length := by
            have : tens.cps.toList.length = 10 := by decide +kernel
            omega
          refine s_set E (xd_call (D := D_l_wider) (xa_d (xd_var rfl) (xa_d (xd_var rfl) (xa_d (xd_var rfl) (xa_d (xd_eqN (xd_modN (xd_addN (xd_divN (xd_var rfl) xd_int (by decide)) (xd_divN (xd_var rfl) xd_int (by decide))) xd_int (by decide)) xd_int) (xa_d (xd_atS (a := tens) xd_str (xd_var rfl) (by decide +kernel) (at_getD 0 hten)) xa_nil))))) ⟨_, _, _, _, _, rfl, by omega, by omega, h1.sl, hcd, rfl⟩) fun σ H e E => ⟨_, ⟨h1.wide _ _ _ (show t ≤ g.wires.length by omega) (show g.wires.length < 10 by omega), ?_, ?_⟩, E.wk (.same (.same (.same (.same (.same (.same (.same (.same (.same (.drop (.drop (.drop .nil))))))))))))⟩
          · show 1 ≤ (g.wires.take t ++ [_] ++ g.wires.drop t).length
            rw [List.length_append, List.length_append, List.length_take, List.length_drop, List.length_singleton]
            omega
          · show (g.wires.take t ++ [_] ++ g.wires.drop t).length + (mm - (m + 1)) ≤ 10
            rw [List.length_append, List.length_append, List.length_take, List.length_drop, List.length_singleton]
            omega
        · obtain ⟨h1, h2, _⟩ := is_
          refine q_when E (xt_test (xd_eqN (xd_modN (xd_divN (xd_var rfl) xd_int (by decide)) xd_int (by decide)) xd_int)) (fun hb H e E => ?_) (fun hb H e E => ?_)
          · refine s_set E (xd_call (D := D_l_lookers) (xa_d (xd_var rfl) (xa_d (xd_divN (xd_var rfl) xd_int (by decide)) xa_nil)) ⟨_, _, rfl, h1.sl, fun s hs => (by
              obtain ⟨_, g2, g3, g4, g5, _⟩ := h1.sp s hs
              refine ⟨by omega, by omega, fun x hx => ?_⟩
              rcases List.mem_append.mp hx with hx | hx
              · have := g4 x hx
                omega
              · have := g5 x hx
                omega), h1.free, rfl⟩) fun σ H e E => ?_
            exact s_ret E (xd_var rfl) fun v H' e t => k v H' e ⟨_, ⟨_, rfl, h1.look _, h2⟩, t⟩
          · exact s_ret E (xd_var rfl) fun v H' e t => k v H' e ⟨_, ⟨_, rfl, h1.mono (by decide) (by decide), h2⟩, t⟩
end

end Q3

namespace Q3
open PySem L2 Evl
/-! ## the law -/
theorem goM_in {g : Gr} {n : List NetW} {d : St2 × List Bool} {m : Mv} {SS : List St2} (hG : InG g SS) (hd : d.1 ∈ SS) (hm : m ∈ movesM g n d) : (goM g n d m).1.1 ∈ SS ∧ (goM g n d m).1.2.length = d.2.length := by
  have go : ∀ k, k < g.steps.length → canM (stp g k) d.1.1 = true → behM (stp g k) d.1 ∈ SS := fun k hk hc => (hG.2 d.1 hd _ (List.mem_of_getElem? (stp_at hk)) hc).2
  unfold goM
  by_cases h1 : m.1 = 1
  · rw [if_pos h1]
    exact ⟨hd, List.length_set⟩
  · rw [if_neg h1]
    by_cases h0 : m.1 = 0
    · rw [if_pos h0]
      rcases moves_mem hm with ⟨k, rfl, hk, hc⟩ | ⟨k, rfl, _⟩ | ⟨x, _, rfl⟩
      · rw [Int.toNat_natCast]
        exact ⟨go k hk hc, rfl⟩
      · exact absurd rfl h1
      · exact absurd h0 (by show ¬ 2 = 0; decide)
    · rw [if_neg h0]
      cases hw : wstepM g d.1 m.2.toNat with
      | none => exact ⟨hd, rfl⟩
      | some k =>
        have hk := List.find?_some hw
        have hkl : k < g.steps.length := List.mem_range.mp (List.mem_of_find?_eq_some hw)
        unfold wsM at hk
        rw [Bool.and_eq_true, Bool.and_eq_true] at hk
        exact ⟨go k hkl hk.2.2, rfl⟩
theorem safe_in {g : Gr} {SS : List St2} {st : St2} (hG : InG g SS) (h : st ∈ SS) : SafeAt g st := fun k hk hc => (hG.2 st h _ (List.mem_of_getElem? (stp_at hk)) hc).1
theorem gates_net {n : List NetW} {k : Nat} (h : ∀ x ∈ n, x.2.1.length + x.2.2.length ≤ k) : (gatesM n).length ≤ k * n.length := by
  induction n with
  | nil => exact Nat.zero_le _
  | cons x n ih =>
    have h1 := h x List.mem_cons_self
    have h2 := ih fun y hy => h y (List.mem_cons_of_mem _ hy)
    have e : gatesM (x :: n) = gatesW x ++ gatesM n := rfl
    rw [e, List.length_append, List.length_cons, Nat.mul_succ]
    unfold gatesW
    rw [List.length_append, List.length_map, List.length_map]
    omega
theorem gates_mem {n : List NetW} {p : PGt} (h : p ∈ gatesM n) : ∃ x ∈ n, p.2.2 ∈ x.2.1 ++ x.2.2 := by
  obtain ⟨x, hx, hp⟩ := List.mem_flatMap.mp h
  refine ⟨x, hx, ?_⟩
  unfold gatesW at hp
  rcases List.mem_append.mp hp with hp | hp
  · obtain ⟨q, hq, rfl⟩ := List.mem_map.mp hp
    exact List.mem_append_left _ hq
  · obtain ⟨q, hq, rfl⟩ := List.mem_map.mp hp
    exact List.mem_append_right _ hq
theorem NetOk.ok {W N : Nat} {n : List NetW} (h : NetOk W N n) (hW : W ≤ 10) (hN : N ≤ 10000) : OkN n := by
  obtain ⟨h1, h2⟩ := h
  refine ⟨?_, by omega, fun p hp => ?_⟩
  · have z := gates_net (n := n) (k := 4) fun x hx => by
      obtain ⟨a, b, _⟩ := h2 x hx
      omega
    omega
  · obtain ⟨x, hx, hq⟩ := gates_mem hp
    have := (h2 x hx).2.2 _ hq
    omega
theorem rows_len (gs : List Gate) : (rowsM gs).length = (gs.map List.length).sum := by
  induction gs with
  | nil => rfl
  | cons x gs ih =>
    have e : rowsM (x :: gs) = (x.map fun r => [r]) ++ rowsM gs := rfl
    rw [e, List.length_append, List.length_map, ih, List.map_cons, List.sum_cons]
theorem apart_ok {W N : Nat} {n : List NetW} (h : NetOk W N n) (hW : W ≤ 10) (hw : withinM n = true) : OkN (apartM n) ∧ ∀ x ∈ n, (rowsM x.2.1).length ≤ 50000 ∧ (rowsM x.2.2).length ≤ 50000 := by
  unfold withinM at hw
  rw [Bool.and_eq_true] at hw
  have key : ∀ x ∈ n, (rowsM x.2.1).length + (rowsM x.2.2).length ≤ 8 := fun x hx => by
    have z := List.all_eq_true.mp hw.1 x hx
    rw [Bool.not_eq_true', decide_eq_false_iff_not] at z
    unfold manyM at z
    rw [List.map_append, List.sum_append, ← rows_len, ← rows_len] at z
    omega
  refine ⟨⟨?_, ?_, fun p hp => ?_⟩, fun x hx => ?_⟩
  · have z := gates_net (n := apartM n) (k := 8) fun y hy => by
      obtain ⟨x, hx, rfl⟩ := List.mem_map.mp hy
      exact key x hx
    have : (apartM n).length = n.length := List.length_map _
    have := h.1
    omega
  · have : (apartM n).length = n.length := List.length_map _
    have := h.1
    omega
  · obtain ⟨y, hy, hq⟩ := gates_mem hp
    obtain ⟨x, hx, rfl⟩ := List.mem_map.mp hy
    have one : ∀ (gs : List Gate) (q : Gate), q ∈ rowsM gs → q.length = 1 := fun gs q hq => by
      obtain ⟨g, _, hg⟩ := List.mem_flatMap.mp hq
      obtain ⟨r, _, rfl⟩ := List.mem_map.mp hg
      rfl
    rcases List.mem_append.mp hq with hq | hq
    · rw [one _ _ hq]
      decide
    · rw [one _ _ hq]
      decide
  · have := key x hx
    omega
/-- slots of data, plays and what is read: an Env at its own heap -/
theorem env_own {K : PySem.W.Frag} {H : Hp} {σ : L2.St} {Γ : List SD} (hl : σ.length = Γ.length) (na : ∀ (i : Nat) (s : SD), Γ[i]? = some s → s.ad = none) (h : ∀ (i : Nat) (s : SD), Γ[i]? = some s → s = .any ∨ ∃ v, σ[i]? = some (some v) ∧ VOk K H H v s) : Q3.Env K H H σ Γ [] :=
  ⟨Ex.refl _, hl, h, (fun p hp => nomatch hp), (fun i j s t a hi _ es _ => by
    rw [na i s hi] at es
    cases es), (fun i s a hi es p hp => nomatch hp)⟩
theorem PlayX.but {C : Addr} {H H' : Hp} {p a q b : Addr} {g n h g' n' h' : PyData} {ls ls' : List PyData} (P : PlayX C H p a g n h ls) (Q : PlayX C H q b g' n' h' ls') (bt : But p a H H') (t : TEx H H') (h1 : q ≠ p) (h2 : b ≠ a) : PlayX C H' q b g' n' h' ls' := by
  obtain ⟨dx, xs, vg, vn, vh, p1, _, _, _, p5, _⟩ := P
  obtain ⟨dx', xs', vg', vn', vh', q1, q2, q3, q4, q5, q6⟩ := Q
  have h3 : q ≠ a := ne_of q1 p5 fun z => nomatch z
  have h4 : b ≠ p := ne_of q5 p1 fun z => nomatch z
  exact ⟨dx', xs', vg', vn', vh', bt _ _ q1 h1 h3, q2.mono t, q3.mono t, q4.mono t, bt _ _ q5 h4 h2, q6.mono t⟩
structure LIv where
  p : Addr
  a : Addr
  vg : V
  vn : V
  vd : V
  vf : V
  o : Option (Addr × Addr)
  d : St2 × List Bool
  f : St2 × List Bool
def ovV : Option (Addr × Addr) → V
  | none => .non
  | some (q, _) => .ref q
section
variable {K : PySem.W.Frag} {C : Addr} {He H H' : Hp} {sc : Addr} {is : List Int} {g : Gr} {n : List NetW} {SS : List St2} {tu ap : Nat} {L : LIv} {σ : L2.St}
def othSD (C : Addr) (g : Gr) (n : List NetW) (f : St2 × List Bool) : Option (Addr × Addr) → SD
  | none => .dat .none
  | some (q, _) => .play C q (encG g) (encN n) (encSt f.1) (f.2.map .bool)
/-- the law's loop: what the slots hold -/
structure LI (K : PySem.W.Frag) (C : Addr) (He : Hp) (sc : Addr) (is : List Int) (g : Gr) (n : List NetW) (SS : List St2) (tu ap : Nat) (L : LIv) (H : Hp) (σ : L2.St) : Prop where
  len : σ.length = 10
  s0 : σ[0]? = some (some (.ref sc))
  s1 : σ[1]? = some (some L.vg)
  s2 : σ[2]? = some (some L.vn)
  s3 : σ[3]? = some (some (.ref L.p))
  s4 : σ[4]? = some (some L.vd)
  s5 : σ[5]? = some (some (.int (tu : Int)))
  s6 : σ[6]? = some (some (.int (ap : Int)))
  s7 : σ[7]? = some (some (ovV L.o))
  s8 : σ[8]? = some (some L.vf)
  ex : Ex He H
  sq : ∃ xs, SqL K He sc xs ∧ TpAll He xs (is.map .int)
  tg : Tp H L.vg (encG g)
  tn : Tp H L.vn (encN n)
  td : Tp H L.vd (encDu L.d)
  tf : Tp H L.vf (encDu L.f)
  P : PlayX C H L.p L.a (encG g) (encN n) (encSt L.d.1) (L.d.2.map .bool)
  pf : He L.p = none ∧ He L.a = none
  Po : ∀ q b, L.o = some (q, b) → PlayX C H q b (encG g) (encN n) (encSt L.f.1) (L.f.2.map .bool) ∧ (He q = none ∧ He b = none) ∧ q ≠ L.p ∧ b ≠ L.a
  di : L.d.1 ∈ SS ∧ (gatesM n).length = L.d.2.length
  fi : L.f.1 ∈ SS ∧ (gatesM n).length = L.f.2.length
def lawSD (C : Addr) (is : List Int) (g : Gr) (n : List NetW) (tu ap : Nat) (L : LIv) (s9 : SD) : List SD :=
  [.rdl (is.map .int), .dat (encG g), .dat (encN n), .play C L.p (encG g) (encN n) (encSt L.d.1) (L.d.2.map .bool), .dat (encDu L.d), .dat (nat tu), .dat (nat ap), othSD C g n L.f L.o, .dat (encDu L.f), s9]
theorem LI.env (I : LI K C He sc is g n SS tu ap L H σ) : Q3.Env K H H σ (lawSD C is g n tu ap L .any) [] := by
  refine env_own (by rw [I.len]; rfl) (fun i s h => ?_) fun i s h => ?_
  · match i, h with
    | 0, h => cases h; rfl
    | 1, h => cases h; rfl
    | 2, h => cases h; rfl
    | 3, h => cases h; rfl
    | 4, h => cases h; rfl
    | 5, h => cases h; rfl
    | 6, h => cases h; rfl
    | 7, h =>
      cases h
      cases L.o <;> rfl
    | 8, h => cases h; rfl
    | 9, h => cases h; rfl
    | i + 10, h => simp [lawSD] at h
  · match i, h with
    | 0, h =>
      cases h
      obtain ⟨xs, h1, h2⟩ := I.sq
      exact .inr ⟨_, I.s0, sc, xs, rfl, ex_l I.ex h1, h2.ex I.ex⟩
    | 1, h => cases h; exact .inr ⟨_, I.s1, I.tg⟩
    | 2, h => cases h; exact .inr ⟨_, I.s2, I.tn⟩
    | 3, h => cases h; exact .inr ⟨_, I.s3, rfl, I.P.at_⟩
    | 4, h => cases h; exact .inr ⟨_, I.s4, I.td⟩
    | 5, h => cases h; exact .inr ⟨_, I.s5, .int _⟩
    | 6, h => cases h; exact .inr ⟨_, I.s6, .int _⟩
    | 7, h =>
      have h7 := I.s7
      have hPo := I.Po
      cases ho : L.o with
      | none =>
        rw [ho] at h7
        have e : s = .dat .none := by
          have z : some (othSD C g n L.f L.o) = some s := h
          rw [ho] at z
          exact (Option.some.inj z).symm
        subst e
        exact .inr ⟨_, h7, .non⟩
      | some qb =>
        obtain ⟨q, b⟩ := qb
        rw [ho] at h7
        have e : s = .play C q (encG g) (encN n) (encSt L.f.1) (L.f.2.map .bool) := by
          have z : some (othSD C g n L.f L.o) = some s := h
          rw [ho] at z
          exact (Option.some.inj z).symm
        subst e
        exact .inr ⟨_, h7, rfl, (hPo q b ho).1.at_⟩
    | 8, h => cases h; exact .inr ⟨_, I.s8, I.tf⟩
    | 9, h => cases h; exact .inl rfl
    | i + 10, h => simp [lawSD] at h
theorem LI.mono (I : LI K C He sc is g n SS tu ap L H σ) (e : Ex H H') : LI K C He sc is g n SS tu ap L H' σ :=
  have po : ∀ q b, L.o = some (q, b) → PlayX C H' q b (encG g) (encN n) (encSt L.f.1) (L.f.2.map .bool) ∧ (He q = none ∧ He b = none) ∧ q ≠ L.p ∧ b ≠ L.a := fun q b h => ⟨(I.Po q b h).1.ex e, (I.Po q b h).2⟩
  { I with ex := I.ex.trans e, tg := I.tg.ex e, tn := I.tn.ex e, td := I.td.ex e, tf := I.tf.ex e, P := I.P.ex e, Po := po }
theorem get_ne {σ : L2.St} {i j : Nat} {x : Option V} {v : Option (Option V)} (h : σ[i]? = v) (hn : j ≠ i) : (σ.set j x)[i]? = v := by
  rw [List.getElem?_set_ne hn]
  exact h
theorem LI.set9 (I : LI K C He sc is g n SS tu ap L H σ) (x : V) : LI K C He sc is g n SS tu ap L H (σ.set 9 (some x)) :=
  { I with len := (by rw [List.length_set]; exact I.len), s0 := get_ne I.s0 (by decide), s1 := get_ne I.s1 (by decide), s2 := get_ne I.s2 (by decide), s3 := get_ne I.s3 (by decide), s4 := get_ne I.s4 (by decide), s5 := get_ne I.s5 (by decide), s6 := get_ne I.s6 (by decide), s7 := get_ne I.s7 (by decide), s8 := get_ne I.s8 (by decide) }
/-- the play moved on -/
theorem LI.move (I : LI K C He sc is g n SS tu ap L H σ) {v : V} {d' : St2 × List Bool} (b : But L.p L.a H H') (t : TEx H H') (P' : PlayX C H' L.p L.a (encG g) (encN n) (encSt d'.1) (d'.2.map .bool)) (tv : Tp H' v (encDu d')) (hd : d'.1 ∈ SS ∧ (gatesM n).length = d'.2.length) :
    LI K C He sc is g n SS tu ap { L with vd := v, d := d' } H' (σ.set 4 (some v)) where
  len := by rw [List.length_set]; exact I.len
  s0 := get_ne I.s0 (by decide)
  s1 := get_ne I.s1 (by decide)
  s2 := get_ne I.s2 (by decide)
  s3 := get_ne I.s3 (by decide)
  s4 := List.getElem?_set_self (by rw [I.len]; decide)
  s5 := get_ne I.s5 (by decide)
  s6 := get_ne I.s6 (by decide)
  s7 := get_ne I.s7 (by decide)
  s8 := get_ne I.s8 (by decide)
  ex := fun c o h => b c o (I.ex c o h) (fun e => by rw [e, I.pf.1] at h; cases h) fun e => by rw [e, I.pf.2] at h; cases h
  sq := I.sq
  tg := I.tg.mono t
  tn := I.tn.mono t
  td := tv
  tf := I.tf.mono t
  P := P'
  pf := I.pf
  Po := fun q c h => by
    obtain ⟨h1, h2, h3, h4⟩ := I.Po q c h
    exact ⟨I.P.but h1 b t h3 h4, h2, h3, h4⟩
  di := hd
  fi := I.fi
/-- the other play moved on -/
theorem LI.far (I : LI K C He sc is g n SS tu ap L H σ) {q c : Addr} (ho : L.o = some (q, c)) {v : V} {d' : St2 × List Bool} (b : But q c H H') (t : TEx H H') (P' : PlayX C H' q c (encG g) (encN n) (encSt d'.1) (d'.2.map .bool)) (tv : Tp H' v (encDu d')) (hd : d'.1 ∈ SS ∧ (gatesM n).length = d'.2.length) :
    LI K C He sc is g n SS tu ap { L with vf := v, f := d' } H' (σ.set 8 (some v)) := by
  obtain ⟨h1, h2, h3, h4⟩ := I.Po q c ho
  exact {
    len := by rw [List.length_set]; exact I.len
    s0 := get_ne I.s0 (by decide)
    s1 := get_ne I.s1 (by decide)
    s2 := get_ne I.s2 (by decide)
    s3 := get_ne I.s3 (by decide)
    s4 := get_ne I.s4 (by decide)
    s5 := get_ne I.s5 (by decide)
    s6 := get_ne I.s6 (by decide)
    s7 := get_ne I.s7 (by decide)
    s8 := List.getElem?_set_self (by rw [I.len]; decide)
    ex := fun c o h => b c o (I.ex c o h) (fun e => by rw [e, h2.1] at h; cases h) fun e => by rw [e, h2.2] at h; cases h
    sq := I.sq
    tg := I.tg.mono t
    tn := I.tn.mono t
    td := I.td.mono t
    tf := tv
    P := h1.but I.P b t h3.symm h4.symm
    pf := I.pf
    Po := fun q' c' h => by
      have e : (q, c) = (q', c') := Option.some.inj (ho.symm.trans h)
      cases e
      exact ⟨P', h2, h3, h4⟩
    di := I.di
    fi := hd }
/-- another twin, of the state f -/
theorem LI.twin (I : LI K C He sc is g n SS tu ap L H σ) {q c : Addr} (e : Ex H H') (hq : H q = none) (hc : H c = none) (P' : PlayX C H' q c (encG g) (encN n) (encSt L.f.1) (L.f.2.map .bool)) : LI K C He sc is g n SS tu ap { L with o := some (q, c) } H' (σ.set 7 (some (.ref q))) :=
  let J := I.mono e
  { J with
    len := by rw [List.length_set]; exact I.len
    s0 := get_ne I.s0 (by decide)
    s1 := get_ne I.s1 (by decide)
    s2 := get_ne I.s2 (by decide)
    s3 := get_ne I.s3 (by decide)
    s4 := get_ne I.s4 (by decide)
    s5 := get_ne I.s5 (by decide)
    s6 := get_ne I.s6 (by decide)
    s7 := List.getElem?_set_self (by rw [I.len]; decide)
    s8 := get_ne I.s8 (by decide)
    Po := fun q' c' h => by
      cases h
      obtain ⟨n1, _⟩ := I.P.noP hq
      obtain ⟨_, n2⟩ := I.P.noP hc
      exact ⟨P', ⟨fresh_back I.ex hq, fresh_back I.ex hc⟩, n1.symm, n2.symm⟩ }
/-- the first twin: the far state begins where the play stands -/
theorem LI.first (I : LI K C He sc is g n SS tu ap L H σ) {q c : Addr} (e : Ex H H') (hq : H q = none) (hc : H c = none) (P' : PlayX C H' q c (encG g) (encN n) (encSt L.d.1) (L.d.2.map .bool)) : LI K C He sc is g n SS tu ap { L with o := some (q, c), f := L.d, vf := L.vd } H' ((σ.set 7 (some (.ref q))).set 8 (some L.vd)) :=
  let J := I.mono e
  { len := by rw [List.length_set, List.length_set]; exact I.len
    s0 := get_ne (get_ne I.s0 (by decide)) (by decide)
    s1 := get_ne (get_ne I.s1 (by decide)) (by decide)
    s2 := get_ne (get_ne I.s2 (by decide)) (by decide)
    s3 := get_ne (get_ne I.s3 (by decide)) (by decide)
    s4 := get_ne (get_ne I.s4 (by decide)) (by decide)
    s5 := get_ne (get_ne I.s5 (by decide)) (by decide)
    s6 := get_ne (get_ne I.s6 (by decide)) (by decide)
    s7 := get_ne (List.getElem?_set_self (by rw [I.len]; decide)) (by decide)
    s8 := List.getElem?_set_self (by rw [List.length_set, I.len]; decide)
    ex := J.ex
    sq := I.sq
    tg := J.tg
    tn := J.tn
    td := J.td
    tf := J.td
    P := J.P
    pf := I.pf
    Po := fun q' c' h => by
      cases h
      obtain ⟨n1, _⟩ := I.P.noP hq
      obtain ⟨_, n2⟩ := I.P.noP hc
      exact ⟨P', ⟨fresh_back I.ex hq, fresh_back I.ex hc⟩, n1.symm, n2.symm⟩
    di := I.di
    fi := I.di }
/-- is None, of a play -/
theorem xd_isNp {Γ : List SD} {i : Nat} {C p : Addr} {g n h : PyData} {ls : List PyData} (hi : Γ[i]? = some (.play C p g n h ls)) : Xd K (tOp (fun x y H Q => y = .non ∧ Q (.bl (decide (x = .non))) H) (tVar i) (tC .non)) Γ (.bool false) := fun He H σ G E Q q => by
  rcases E.at_ i _ hi with z | ⟨v, hv, e, _⟩
  · cases z
  · subst e
    exact ⟨_, hv, rfl, q _ H (Ex.refl H) (.bl _)⟩
theorem xd_notNp {Γ : List SD} {i : Nat} {C p : Addr} {g n h : PyData} {ls : List PyData} (hi : Γ[i]? = some (.play C p g n h ls)) : Xd K (tOp (fun x y H Q => y = .non ∧ Q (.bl (!decide (x = .non))) H) (tVar i) (tC .non)) Γ (.bool true) := fun He H σ G E Q q => by
  rcases E.at_ i _ hi with z | ⟨v, hv, e, _⟩
  · cases z
  · subst e
    exact ⟨_, hv, rfl, q _ H (Ex.refl H) (.bl _)⟩
theorem xd_notNn {Γ : List SD} {i : Nat} (hi : Γ[i]? = some (.dat .none)) : Xd K (tOp (fun x y H Q => y = .non ∧ Q (.bl (!decide (x = .non))) H) (tVar i) (tC .non)) Γ (.bool false) := fun He H σ G E Q q => by
  obtain ⟨v, hv, t⟩ := E.get hi
  rw [t.non_eq] at hv
  exact ⟨_, hv, rfl, q _ H (Ex.refl H) (.bl _)⟩
end
def D_law : List SD → Res → Prop := fun as R => ∃ (is : List Int), as = [.rdl (is.map .int)] ∧ R = RD (.bool true)

end Q3

namespace Q3
open PySem L2 Evl
/-! ## the law holds -/
theorem OkPl.of {g : Gr} {n : List NetW} {SS : List St2} {d : St2 × List Bool} (S : ShortG g) (O : OkN n) (hG : InG g SS) (h : d.1 ∈ SS ∧ (gatesM n).length = d.2.length) : OkPl g n d := ⟨S, O, h.2, safe_in hG h.1⟩
theorem moved_in {g : Gr} {n : List NetW} {SS : List St2} {d d' : St2 × List Bool} (hG : InG g SS) (h : d.1 ∈ SS ∧ (gatesM n).length = d.2.length) (q : d' = d ∨ ∃ m ∈ movesM g n d, d' = (goM g n d m).1) : d'.1 ∈ SS ∧ (gatesM n).length = d'.2.length := by
  rcases q with rfl | ⟨m, hm, rfl⟩
  · exact h
  · obtain ⟨h1, h2⟩ := goM_in hG h.1 hm
    exact ⟨h1, h.2.trans h2.symm⟩
theorem set_at {σ : L2.St} {i : Nat} {x : Option V} (h : σ[i]? = some x) : σ.set i x = σ := by
  refine List.ext_getElem? fun j => ?_
  rw [List.getElem?_set]
  by_cases e : i = j
  · subst e
    rw [if_pos rfl, if_pos (List.getElem?_eq_some_iff.mp h).1, h]
  · rw [if_neg e]
theorem LI.env9 {K : PySem.W.Frag} {C : Addr} {He H : Hp} {sc : Addr} {is : List Int} {g : Gr} {n : List NetW} {SS : List St2} {tu ap m : Nat} {L : LIv} {σ : L2.St} (I : LI K C He sc is g n SS tu ap L H σ) (h : σ[9]? = some (some (.int (m : Int)))) : Q3.Env K H H σ (lawSD C is g n tu ap L (.dat (nat m))) [] := by
  have z := I.env.setD (i := 9) (v := .int (m : Int)) (d := nat m) (.int _)
  rw [set_at h] at z
  exact z
theorem q_setS {K : PySem.W.Frag} {He H : Hp} {σ : L2.St} {Γ : List SD} {G : List (V × SD)} {D : Ends} {te : TE} {tz : TS} {d : PyData} {i : Nat} (E : Q3.Env K He H σ Γ G) (hx : Xd K te Γ d)
    (k : ∀ v H', Ex H H' → Q3.Env K He H' (σ.set i (some v)) (Γ.set i (.dat d)) G → tz D (σ.set i (some v)) H') : tSeq (tAsg te (gName i)) tz D σ H := hx He H σ G E _ fun v H2 e t => k v H2 e ((E.mono e).setD t)
theorem s_to {K : PySem.W.Frag} {He H : Hp} {σ : L2.St} {Γ : List SD} {G : List (V × SD)} {D : Ends} {ta : TA} {as : List SD} {sp : Sp} {E' : XK} {g : TG} (h : Xa K ta Γ as) (E : Q3.Env K He H σ Γ G)
    (k : ∀ vs H2, Ex H H2 → AAll K H2 vs as → sp (vs ++ []) H2 (fun v H3 => g v σ H3 fun σ' H' => D.nx σ' H') E') : tAsg (tCall sp [] E' ta) g D σ H := h He H σ G E _ k
theorem aall5 {K : PySem.W.Frag} {H : Hp} {vs : List V} {C p : Addr} {g n h a b c e : PyData} {ls : List PyData} (t : AAll K H vs [.play C p g n h ls, .dat a, .dat b, .dat c, .dat e]) : ∃ v2 v3 v4 v5, vs = [.ref p, v2, v3, v4, v5] ∧ Tp H v2 a ∧ Tp H v3 b ∧ Tp H v4 c ∧ Tp H v5 e := by
  cases t with
  | cons t1 t =>
    cases t with
    | cons t2 t =>
      cases t with
      | cons t3 t =>
        cases t with
        | cons t4 t =>
          cases t with
          | cons t5 t =>
            cases t
            obtain ⟨e1, _⟩ := t1
            exact ⟨_, _, _, _, by rw [e1], t2, t3, t4, t5⟩
section
variable {P : Program} {w : World} {K : PySem.W.Frag} {mg : Str → Option Value} {base : Heap} {C : Addr} {f : Nat → Addr} {fd : Nat → FuncData} {xc : Nat → Addr}
set_option maxHeartbeats 16000000 in
theorem ok_law (T : Top K mg C f fd xc) : FnOk P w K mg base CX0 8 (f 44) (fd 44) ["_law_script"] (spG K D_law) := by
  refine Fun.pure T.law.F sc_law (fun as R hD => ?_) (by decide) fun cdv A outer s H E hr => ⟨_, (pss_cons (ps_set (i := 1) sc_law.nd rfl (Or.inl rfl) (pe_call (ok_l_any_graph T) (hr.mono (by decide)) (by rfl) T.l_any_graph.m T.l_any_graph.F.kp T.l_any_graph.b .nil pass0 (pa_cons (pv 0) (pa_cons pe_int (pa_cons pe_int (pa_cons pe_int pa_nil))))))
  (pss_cons (ps_set (i := 2) sc_law.nd rfl (Or.inl rfl) (pe_call (ok_l_any_net T) (hr.mono (by decide)) (by rfl) T.l_any_net.m T.l_any_net.F.kp T.l_any_net.b .nil pass0 (pa_cons (pv 0) (pa_cons pe_int (pa_cons (pv 1) (pa_cons (pe_call (ok_l_stands T) (hr.mono (by decide)) (by rfl) T.l_stands.m T.l_stands.F.kp T.l_stands.b .nil pass0 (pa_cons (pv 1) pa_nil)) pa_nil))))))
  (pss_cut (ps_if (PW.pt (pw_and (pt_cmpR op_eq (pe_op op_mod (pe_call (ok_l_mix T) (hr.mono (by decide)) (by rfl) T.l_mix.m T.l_mix.F.kp T.l_mix.b .nil pass0 (pa_cons (pv 0) (pa_cons pe_int pa_nil))) pe_int) pe_int (nomark _)) (pw_and1 (pt_val (pe_call (ok_l_within T) (hr.mono (by decide)) (by rfl) T.l_within.m T.l_within.F.kp T.l_within.b .nil pass0 (pa_cons (pv 2) pa_nil)))))) (pss_one (ps_set (i := 2) sc_law.nd rfl (Or.inl rfl) (pe_call (ok_apart T) (hr.mono (by decide)) (by rfl) T.apart.m T.apart.F.kp T.apart.b .nil pass0 (pa_cons (pv 2) pa_nil)))) pss_nil)
  (pss_cons (ps_set (i := 3) sc_law.nd rfl (Or.inl rfl) (pe_make T.mkC (ok_P_init T) (hr.mono (by decide)) rfl T.gC T.P_init.b .nil pass0 (pa_cons (pv 1) (pa_cons (pv 2) pa_nil))))
  (pss_cons (ps_set (i := 4) sc_law.nd rfl (Or.inl rfl) (pe_call (ok_l_begun T) (hr.mono (by decide)) (by rfl) T.l_begun.m T.l_begun.F.kp T.l_begun.b .nil pass0 (pa_cons (pv 1) (pa_cons (pv 2) pa_nil))))
  (pss_cons (ps_set (i := 5) sc_law.nd rfl (Or.inl rfl) (pe_callB (call_max2 rfl) (by rfl) T.n_max (by decide +kernel) (pa_cons pe_int (pa_cons (pe_callB call_len_seq (by rfl) T.n_len (by decide +kernel) (pa_cons (pe_slice sl_list (pv 0) po_none (po_some pe_int)) pa_nil)) pa_nil))))
  (pss_cons (ps_set (i := 6) sc_law.nd rfl (Or.inl rfl) (pe_op op_mod (pe_call (ok_l_mix T) (hr.mono (by decide)) (by rfl) T.l_mix.m T.l_mix.F.kp T.l_mix.b .nil pass0 (pa_cons (pv 0) (pa_cons pe_int pa_nil))) (pv 5)))
  (pss_cons (ps_set (i := 7) sc_law.nd rfl (Or.inl rfl) pe_non)
  (pss_cons (ps_set (i := 8) sc_law.nd rfl (Or.inl rfl) (pv 4))
  (pss_cons (ps_for PassesOwn.never rfl (pi_range1 rfl T.n_range (pa_cons (pv 5) pa_nil)) (pg_name (i := 9) sc_law.nd rfl (Or.inl rfl))
  (pss_cons (ps_if (pt_not (pt_val (pe_call (ok_l_same T) (hr.mono (by decide)) (by rfl) T.l_same.m T.l_same.F.kp T.l_same.b .nil pass0 (pa_cons (pv 3) (pa_cons (pv 1) (pa_cons (pv 2) (pa_cons (pv 4) pa_nil))))))) (pss_one (ps_ret pe_bl)) pss_nil)
  (pss_cut (ps_if (pt_cmpR op_eq (pv 9) (pv 6) (nomark _)) (pss_cons (ps_set (i := 7) sc_law.nd rfl (Or.inl rfl) (pe_meth0 (pv 3) T.cl T.P_twin_m (ok_P_twin T) (hr.mono (by decide)) T.P_twin.b .nil pass0))
  (pss_one (ps_set (i := 8) sc_law.nd rfl (Or.inl rfl) (pv 4)))) pss_nil)
  (pss_cut (ps_if (pt_cmpR op_eq (pv 9) (pe_op op_add (pv 6) pe_int) (nomark _)) (pss_one (ps_set (i := 7) sc_law.nd rfl (Or.inl rfl) (pe_meth0 (pv 7) T.cl T.P_twin_m (ok_P_twin T) (hr.mono (by decide)) T.P_twin.b .nil pass0))) pss_nil)
  (pss_cons (ps_set (i := 4) sc_law.nd rfl (Or.inl rfl) (pe_call (ok_l_moved T) (hr.mono (by decide)) (by rfl) T.l_moved.m T.l_moved.F.kp T.l_moved.b .nil pass0 (pa_cons (pv 3) (pa_cons (pv 1) (pa_cons (pv 2) (pa_cons (pv 4) (pa_cons (pe_call (ok_l_mix T) (hr.mono (by decide)) (by rfl) T.l_mix.m T.l_mix.F.kp T.l_mix.b .nil pass0 (pa_cons (pv 0) (pa_cons (pv 9) pa_nil))) pa_nil)))))))
  (pss_cut (ps_if (PW.pt (pw_and (pt_cmpR op_notN (pv 7) pe_non (nomark _)) (pw_and1 (pt_cmpR op_eq (pe_op op_mod (pv 9) pe_int) pe_int (nomark _))))) (pss_cons (ps_if (pt_not (pt_val (pe_call (ok_l_same T) (hr.mono (by decide)) (by rfl) T.l_same.m T.l_same.F.kp T.l_same.b .nil pass0 (pa_cons (pv 7) (pa_cons (pv 1) (pa_cons (pv 2) (pa_cons (pv 8) pa_nil))))))) (pss_one (ps_ret pe_bl)) pss_nil)
  (pss_one (ps_set (i := 8) sc_law.nd rfl (Or.inl rfl) (pe_call (ok_l_moved T) (hr.mono (by decide)) (by rfl) T.l_moved.m T.l_moved.F.kp T.l_moved.b .nil pass0 (pa_cons (pv 7) (pa_cons (pv 1) (pa_cons (pv 2) (pa_cons (pv 8) (pa_cons (pe_op op_fdiv (pe_call (ok_l_mix T) (hr.mono (by decide)) (by rfl) T.l_mix.m T.l_mix.F.kp T.l_mix.b .nil pass0 (pa_cons (pv 0) (pa_cons (pv 9) pa_nil))) pe_int) pa_nil))))))))) pss_nil)
  (pss_one (ps_if (PW.pt (pw_or (pt_cmpR op_isN (pv 4) pe_non (nomark _)) (pw_or1 (pt_cmpR op_isN (pv 8) pe_non (nomark _))))) (pss_one (ps_ret pe_bl)) pss_nil))))))))
  (pss_one (ps_ret (pe_and (pe_call (ok_l_same T) (hr.mono (by decide)) (by rfl) T.l_same.m T.l_same.F.kp T.l_same.b .nil pass0 (pa_cons (pv 3) (pa_cons (pv 1) (pa_cons (pv 2) (pa_cons (pv 4) pa_nil))))) (pe_one (pe_or (pe_cmpR op_isN (pv 7) pe_non (nomark _)) (pe_one (pe_call (ok_l_same T) (hr.mono (by decide)) (by rfl) T.l_same.m T.l_same.F.kp T.l_same.b .nil pass0 (pa_cons (pv 7) (pa_cons (pv 1) (pa_cons (pv 2) (pa_cons (pv 8) pa_nil))))))))))))))))))))), fun as R hD He σ Q E k => ?_⟩
  · obtain ⟨is, rfl, _⟩ := hD
    rfl
  · obtain ⟨is, rfl, rfl⟩ := hD
    refine q_setQ E (P := IsG2) (xq_call (D := D_l_any_graph) (xa_r (xr_rdl rfl) (xa_d xd_int (xa_d xd_int (xa_d xd_int xa_nil)))) ⟨is, 0, rfl, rfl⟩) fun d σ1 H1 hd e1 E1 => ?_
    obtain ⟨g, rfl, hg, hw1⟩ := hd
    have S := hg.short (by decide) (by decide)
    have wl := hg.wl
    obtain ⟨SS, hSS, hG⟩ := hg.set
    rcases E1.at_ 0 _ rfl with z | ⟨v0, s0, sc, xs, rfl, sq, ti⟩
    · cases z
    rcases E1.at_ 1 _ rfl with z | ⟨vg, s1, tg⟩
    · cases z
    refine ⟨_, s0, _, s1, _, s1, ⟨[.dat (encG g)], _, .cons tg .nil, ⟨g, SS, rfl, S, hG, hSS, rfl⟩, fun v H2 e2 ⟨ds, ⟨sts, hds, hl⟩, ra, rxs, rv, n1, h2, t2⟩ => ?_⟩⟩
    subst rv
    subst hds
    refine ⟨[.rdl (is.map .int), .dat (nat 12), .dat (encG g), .rdl (sts.map encSt)], _, .cons ⟨sc, xs, rfl, ex_l (e1.trans e2) sq, ti.ex (e1.trans e2)⟩ (.cons (.int _) (.cons (tg.ex e2) (.cons ⟨ra, rxs, rfl, sq_of h2, t2⟩ .nil))), ⟨is, 12, g, sts, rfl, S, by omega, hl, rfl⟩, fun v3 H3 e3 ⟨dn, ⟨n0, hdn, hn0⟩, tn0⟩ => ?_⟩
    subst hdn
    have E3 := (E1.mono (e2.trans e3)).setD (i := 2) tn0
    refine q_cut (S := List NetW) E3 OkN (fun n => [.rdl (is.map .int), .dat (encG g), .dat (encN n), .any, .any, .any, .any, .any, .any, .any]) ?_ ?_
    · refine s_when E3 (b := decide (mixM is 10 % 3 = 0) && withinM n0) (xt_and (xt_test (xd_eqN (xd_modN (xd_call (D := D_l_mix) (xa_r (xr_rdl rfl) (xa_d xd_int xa_nil)) ⟨is, 10, rfl, rfl⟩) xd_int (by decide)) xd_int)) fun h => (xt_B (xd_call (D := D_l_within) (xa_d (xd_var rfl) xa_nil) ⟨n0, rfl, fun x hx => by
        obtain ⟨a1, a2, _⟩ := hn0.2 x hx
        omega, rfl⟩))) (fun hb H e E => ?_) (fun hb H e E => ?_)
      · rw [Bool.and_eq_true] at hb
        obtain ⟨o1, o2⟩ := apart_ok hn0 wl hb.2
        refine s_set E (xd_call (D := D_apart) (xa_d (xd_var rfl) xa_nil) ⟨n0, rfl, by
          have := hn0.1
          omega, o2, rfl⟩) fun σ H e E => ⟨apartM n0, o1, E⟩
      · exact ⟨n0, hn0.ok wl hl, E⟩
    · rintro n σ H4 O E4
      have O2 : Ok2 g n := ⟨S.S, O.gl, O.nl⟩
      rcases E4.at_ 0 _ rfl with z | ⟨v0, s0, sc, xs, rfl, sq, ti⟩
      · cases z
      obtain ⟨vg, s1, tg⟩ := E4.get (i := 1) rfl
      obtain ⟨vn, s2, tn⟩ := E4.get (i := 2) rfl
      have len4 : σ.length = 10 := E4.len
      refine ⟨_, s1, _, s2, ?_⟩
      intro p dx np ndx nex
      have e0 : Ex H4 (upd (upd H4 dx (.own p)) p (.ins C dx [])) := fun b o e => by
        rw [upd_ne (ne_of_none e np), upd_ne (ne_of_none e ndx)]
        exact e
      refine ⟨p, dx, vg, vn, g, n, rfl, upd_same, tg.ex e0, tn.ex e0, O2, fun a H5 na P5 fr => ⟨rfl, ?_⟩⟩
      have e5 : Ex H4 H5 := fun b o e => fr b o (e0 b o e) (ne_of_none e np)
      have ha4 : H4 a = none := fresh_back e0 na
      have E5 : Q3.Env K H5 H5 (σ.set 3 (some (.ref p))) [.rdl (is.map .int), .dat (encG g), .dat (encN n), .play C p (encG g) (encN n) (encSt (beginM g n).1) ((beginM g n).2.map .bool), .any, .any, .any, .any, .any, .any] [] := by
        refine env_own (by rw [List.length_set, len4]; rfl) (fun i s h => ?_) fun i s h => ?_
        · match i, h with
          | 0, h => cases h; rfl
          | 1, h => cases h; rfl
          | 2, h => cases h; rfl
          | 3, h => cases h; rfl
          | 4, h => cases h; rfl
          | 5, h => cases h; rfl
          | 6, h => cases h; rfl
          | 7, h => cases h; rfl
          | 8, h => cases h; rfl
          | 9, h => cases h; rfl
          | i + 10, h => simp at h
        · match i, h with
          | 0, h => cases h; exact .inr ⟨_, get_ne s0 (by decide), sc, xs, rfl, ex_l (E4.ex.trans e5) sq, ti.ex (E4.ex.trans e5)⟩
          | 1, h => cases h; exact .inr ⟨_, get_ne s1 (by decide), tg.ex e5⟩
          | 2, h => cases h; exact .inr ⟨_, get_ne s2 (by decide), tn.ex e5⟩
          | 3, h => cases h; exact .inr ⟨_, List.getElem?_set_self (by rw [len4]; decide), rfl, P5.at_⟩
          | 4, h => cases h; exact .inl rfl
          | 5, h => cases h; exact .inl rfl
          | 6, h => cases h; exact .inl rfl
          | 7, h => cases h; exact .inl rfl
          | 8, h => cases h; exact .inl rfl
          | 9, h => cases h; exact .inl rfl
          | i + 10, h => simp at h
      have hpe : He p = none := fresh_back E4.ex np
      have hae : He a = none := fresh_back E4.ex ha4
      show tSeq _ _ _ (σ.set 3 (some (.ref p))) H5
      have len5 : (σ.set 3 (some (V.ref p))).length = 10 := by rw [List.length_set, len4]
      have s05 : (σ.set 3 (some (V.ref p)))[0]? = some (some (.ref sc)) := get_ne s0 (by decide)
      have s35 : (σ.set 3 (some (V.ref p)))[3]? = some (some (.ref p)) := List.getElem?_set_self (by rw [len4]; decide)
      generalize σ.set 3 (some (V.ref p)) = σ5 at E5 len5 s05 s35
      refine q_setS E5 (xd_call (D := D_l_begun) (xa_d (xd_var rfl) (xa_d (xd_var rfl) xa_nil)) ⟨g, n, rfl, O, rfl⟩) fun v6 H6 e6 E6 => ?_
      refine q_setS E6 (d := nat (max 12 (is.take 30).length)) (xd_maxN (a := 12) xd_int (xd_lenL (xr_new (xl_is (xl_slL (ds := is.map .int) (xr_rdl rfl) xo_none (xo_some (i := ((30 : Nat) : Int)) xd_int)) (cut_to 30))) (List.length_map _))) fun v7 H7 e7 E7 => ?_
      have htl : max 12 (is.take 30).length ≤ 30 := by
        rw [List.length_take]
        omega
      have htp : 0 < max 12 (is.take 30).length := by omega
      generalize max 12 (is.take 30).length = tu at htl htp E7
      refine q_setS E7 (xd_modN (xd_call (D := D_l_mix) (xa_r (xr_rdl rfl) (xa_d xd_int xa_nil)) ⟨is, 11, rfl, rfl⟩) (xd_var rfl) htp) fun v8 H8 e8 E8 => ?_
      generalize mixM is 11 % tu = ap at E8
      refine q_setS E8 xd_non fun v9 H9 e9 E9 => ?_
      refine q_setS E9 (xd_var rfl) fun v10 H10 e10 E10 => ?_
      have ex10 : Ex H5 H10 := E10.ex
      obtain ⟨ug, t1, tg⟩ := E10.get (i := 1) rfl
      obtain ⟨un, t2, tn⟩ := E10.get (i := 2) rfl
      obtain ⟨ud, t4, td⟩ := E10.get (i := 4) (d := encDu (beginM g n)) rfl
      obtain ⟨u5, t5, td5⟩ := E10.get (i := 5) (d := nat tu) rfl
      obtain ⟨u6, t6, td6⟩ := E10.get (i := 6) (d := nat ap) rfl
      obtain ⟨u7, t7, td7⟩ := E10.get (i := 7) (d := .none) rfl
      obtain ⟨u8, t8, td8⟩ := E10.get (i := 8) (d := encDu (beginM g n)) rfl
      rw [Tp.int_eq td5] at t5
      rw [Tp.int_eq td6] at t6
      rw [Tp.non_eq td7] at t7
      have g0 := get_ne (get_ne (get_ne (get_ne (get_ne s05 (show 4 ≠ 0 by decide) (x := some v6)) (show 5 ≠ 0 by decide) (x := some v7)) (show 6 ≠ 0 by decide) (x := some v8)) (show 7 ≠ 0 by decide) (x := some v9)) (show 8 ≠ 0 by decide) (x := some v10)
      have g3 := get_ne (get_ne (get_ne (get_ne (get_ne s35 (show 4 ≠ 3 by decide) (x := some v6)) (show 5 ≠ 3 by decide) (x := some v7)) (show 6 ≠ 3 by decide) (x := some v8)) (show 7 ≠ 3 by decide) (x := some v9)) (show 8 ≠ 3 by decide) (x := some v10)
      have hlen : (((((σ5.set 4 (some v6)).set 5 (some v7)).set 6 (some v8)).set 7 (some v9)).set 8 (some v10)).length = 10 := by simp only [List.length_set]; exact len5
      generalize ((((σ5.set 4 (some v6)).set 5 (some v7)).set 6 (some v8)).set 7 (some v9)).set 8 (some v10) = σ10 at t1 t2 t4 t5 t6 t7 t8 g0 g3 hlen
      have hbl : (gatesM n).length = (beginM g n).2.length := (List.length_map _).symm
      have I0 : LI K C He sc is g n SS tu ap ⟨p, a, ug, un, ud, u8, none, beginM g n, beginM g n⟩ H10 σ10 :=
        { len := hlen, s0 := g0, s1 := t1, s2 := t2, s3 := g3, s4 := t4, s5 := t5, s6 := t6, s7 := t7, s8 := t8, ex := (E4.ex.trans e5).trans ex10, sq := ⟨xs, sq, ti⟩, tg := tg, tn := tn, td := td, tf := td8, P := P5.ex ex10, pf := ⟨hpe, hae⟩, Po := (fun _ _ h => nomatch h), di := ⟨hG.1, hbl⟩, fi := ⟨hG.1, hbl⟩ }
      clear E10 E9 E8 E7 E6 E5 E4
      have samep : ∀ (L : LIv) (s9 : SD), L.d.1 ∈ SS ∧ (gatesM n).length = L.d.2.length → Xd K (tCall (spG K (D_l_same C)) [] E0 (tCons (tVar 3) (tCons (tVar 1) (tCons (tVar 2) (tCons (tVar 4) tNil))))) (lawSD C is g n tu ap L s9) (.bool true) := fun L s9 hd => xd_call (D := D_l_same C) (xa_p rfl (xa_d (xd_var rfl) (xa_d (xd_var rfl) (xa_d (xd_var rfl) xa_nil)))) ⟨_, _, _, _, rfl, S, O, hd.2, rfl⟩
      have sameq : ∀ (L : LIv) (s9 : SD) (q b : Addr), L.o = some (q, b) → L.f.1 ∈ SS ∧ (gatesM n).length = L.f.2.length → Xd K (tCall (spG K (D_l_same C)) [] E0 (tCons (tVar 7) (tCons (tVar 1) (tCons (tVar 2) (tCons (tVar 8) tNil))))) (lawSD C is g n tu ap L s9) (.bool true) := fun L s9 q b ho hd => xd_call (D := D_l_same C) (xa_p (p := q) (show some (othSD C g n L.f L.o) = _ by rw [ho]; rfl) (xa_d (xd_var rfl) (xa_d (xd_var rfl) (xa_d (xd_var rfl) xa_nil)))) ⟨_, _, _, _, rfl, S, O, hd.2, rfl⟩
      refine q_ (Evl.s_forR1 (n := (tu : Int)) (fun H1 e Q q => ⟨_, I0.s5, q H1 (Ex.refl _)⟩) ⟨by omega, by omega⟩ (fun m σ H => ∃ L, LI K C He sc is g n SS tu ap L H σ ∧ (ap < m → L.o ≠ none)) (fun H1 e => ⟨_, I0.mono e, fun h => absurd h (Nat.not_lt_zero _)⟩) (fun m σ H hm ⟨L, I, ho⟩ => ?_) (fun σ H ⟨L, I, _⟩ => ?_))
      · have I1 := I.set9 (.int (m : Int))
        have s9 : (σ.set 9 (some (V.int (m : Int))))[9]? = some (some (.int (m : Int))) := List.getElem?_set_self (by rw [I.len]; decide)
        generalize σ.set 9 (some (V.int (m : Int))) = σ at I1 s9
        refine q_when (b := false) (I1.env9 s9) (xt_not (a := true) (xt_B (b := true) (samep _ _ I.di))) (fun hb => nomatch hb) (fun hb H2 e2 _ => ?_)
        have I2 := I1.mono e2
        clear I1
        refine ⟨fun σ' H' => ∃ L, LI K C He sc is g n SS tu ap L H' σ' ∧ σ'[9]? = some (some (.int (m : Int))) ∧ (ap ≤ m → L.o ≠ none), ?_, ?_⟩
        · refine s_when (I2.env9 s9) (xt_test (xd_eqN (a := m) (b := ap) (xd_var rfl) (xd_var rfl))) (fun hb H3 e3 _ => ?_) (fun hb H3 e3 _ => ?_)
          · have I3 := I2.mono e3
            obtain ⟨dx, ys, wg, wn, wh, q1, _⟩ := id I3.P
            refine ⟨_, I3.s3, L.p, dx, _, rfl, q1, pf_no (by decide +kernel) (by decide +kernel) (by decide +kernel) (by decide +kernel), L.p, L.a, g, n, L.d.1, L.d.2, rfl, I3.P, O2, fun q c H4 nq nc ex P' => ⟨_, get_ne I3.s4 (by decide), ?_⟩⟩
            exact ⟨_, I3.first ex nq nc P', get_ne (get_ne s9 (by decide)) (by decide), fun _ z => nomatch z⟩
          · have ne := of_decide_eq_false hb
            exact ⟨L, I2.mono e3, s9, fun h => ho (by omega)⟩
        · rintro σ H ⟨L, I, s9, ho⟩
          refine ⟨fun σ' H' => ∃ L, LI K C He sc is g n SS tu ap L H' σ' ∧ σ'[9]? = some (some (.int (m : Int))) ∧ (ap ≤ m → L.o ≠ none), ?_, ?_⟩
          · refine s_when (I.env9 s9) (xt_test (xd_eqN (a := m) (b := ap + 2) (xd_var rfl) (xd_addN (a := ap) (b := 2) (xd_var rfl) xd_int))) (fun hb H3 e3 _ => ?_) (fun hb H3 e3 _ => ?_)
            · have I3 := I.mono e3
              have em := of_decide_eq_true hb
              cases hL : L.o with
              | none => exact absurd hL (ho (by omega))
              | some qb =>
                obtain ⟨q0, b0⟩ := qb
                obtain ⟨h1, h2, h3, h4⟩ := I3.Po q0 b0 hL
                obtain ⟨dx, ys, wg, wn, wh, q1, _⟩ := id h1
                have h7 := I3.s7
                rw [hL] at h7
                refine ⟨_, h7, q0, dx, _, rfl, q1, pf_no (by decide +kernel) (by decide +kernel) (by decide +kernel) (by decide +kernel), q0, b0, g, n, L.f.1, L.f.2, rfl, h1, O2, fun q c H4 nq nc ex P' => ?_⟩
                exact ⟨_, I3.twin ex nq nc P', get_ne s9 (by decide), fun _ z => nomatch z⟩
            · exact ⟨L, I.mono e3, s9, ho⟩
          · rintro σ H ⟨L, I, s9, ho⟩
            refine q_to (as := [.play C L.p (encG g) (encN n) (encSt L.d.1) (L.d.2.map .bool), .dat (encG g), .dat (encN n), .dat (encDu L.d), .dat (nat (mixM is m))]) (xa_p rfl (xa_d (xd_var rfl) (xa_d (xd_var rfl) (xa_d (xd_var rfl) (xa_d (xd_call (D := D_l_mix) (xa_r (xr_rdl rfl) (xa_d (xd_var rfl) xa_nil)) ⟨is, m, rfl, rfl⟩) xa_nil))))) (I.env9 s9) fun vs H2 e2 t => ?_
            obtain ⟨y2, y3, y4, y5, ey, z2, z3, z4, z5⟩ := aall5 t
            subst ey
            refine ⟨L.p, L.a, _, _, _, mixM is m, g, n, L.d, by rw [Tp.int_eq z5] <;> rfl, I.P.ex e2, z2, z3, z4, OkPl.of S O hG I.di, fun v H3 d' bt te P' tv q => ?_⟩
            have I4 := (I.mono e2).move bt te P' tv (moved_in hG I.di q)
            have s9' : (σ.set 4 (some v))[9]? = some (some (.int (m : Int))) := get_ne s9 (by decide)
            have ho' : ap ≤ m → ({ L with vd := v, d := d' } : LIv).o ≠ none := ho
            show tCut _ _ _ (σ.set 4 (some v)) H3
            generalize σ.set 4 (some v) = σ4 at I4 s9'
            generalize ({ L with vd := v, d := d' } : LIv) = L at I4 ho'
            refine ⟨fun σ' H' => ∃ L, LI K C He sc is g n SS tu ap L H' σ' ∧ σ'[9]? = some (some (.int (m : Int))) ∧ (ap ≤ m → L.o ≠ none), ?_, ?_⟩
            · cases hL : L.o with
              | none =>
                refine s_when (I4.env9 s9') (b := false) (xt_and (a := false) (b := false) (xt_test (xd_notNn (show some (othSD C g n L.f L.o) = _ by rw [hL]; rfl))) fun h => nomatch h) (fun hb => nomatch hb) (fun hb H5 e5 _ => ?_)
                exact ⟨L, I4.mono e5, s9', ho'⟩
              | some qb =>
                obtain ⟨q0, b0⟩ := qb
                refine s_when (I4.env9 s9') (b := true && decide (m % 2 = 0)) (xt_and (a := true) (xt_test (xd_notNp (p := q0) (show some (othSD C g n L.f L.o) = _ by rw [hL]; rfl))) fun h => xt_test (xd_eqN (xd_modN (xd_var rfl) xd_int (by decide)) xd_int)) (fun hb H5 e5 _ => ?_) (fun hb H5 e5 _ => ?_)
                · have I5 := I4.mono e5
                  refine q_when (b := false) (I5.env9 s9') (xt_not (a := true) (xt_B (b := true) (sameq _ _ q0 b0 hL I5.fi))) (fun hb => nomatch hb) (fun hb H6 e6 _ => ?_)
                  have I6 := I5.mono e6
                  obtain ⟨h1, h2, h3, h4⟩ := I6.Po q0 b0 hL
                  refine s_to (as := [.play C q0 (encG g) (encN n) (encSt L.f.1) (L.f.2.map .bool), .dat (encG g), .dat (encN n), .dat (encDu L.f), .dat (nat (mixM is m / 7919))]) (xa_p (show some (othSD C g n L.f L.o) = _ by rw [hL]; rfl) (xa_d (xd_var rfl) (xa_d (xd_var rfl) (xa_d (xd_var rfl) (xa_d (xd_divN (xd_call (D := D_l_mix) (xa_r (xr_rdl rfl) (xa_d (xd_var rfl) xa_nil)) ⟨is, m, rfl, rfl⟩) xd_int (by decide)) xa_nil))))) (I6.env9 s9') fun vs H7 e7 t => ?_
                  obtain ⟨y2, y3, y4, y5, ey, z2, z3, z4, z5⟩ := aall5 t
                  subst ey
                  refine ⟨q0, b0, _, _, _, mixM is m / 7919, g, n, L.f, by rw [Tp.int_eq z5] <;> rfl, h1.ex e7, z2, z3, z4, OkPl.of S O hG I6.fi, fun v H8 d' bt te P' tv q => ?_⟩
                  exact ⟨_, (I6.mono e7).far hL bt te P' tv (moved_in hG I6.fi q), get_ne s9' (by decide), ho'⟩
                · exact ⟨L, I4.mono e5, s9', ho'⟩
            · rintro σ H ⟨L, I, s9, ho⟩
              refine s_when (I.env9 s9) (b := false) (xt_or (a := false) (b := false) (xt_test (xd_isN (d := encDu L.d) (xd_var rfl))) fun h => xt_test (xd_isN (d := encDu L.f) (xd_var rfl))) (fun hb => nomatch hb) (fun hb H5 e5 _ => ?_)
              exact ⟨L, I.mono e5, fun h => ho (by omega)⟩
      · cases hL : L.o with
        | none =>
          refine s_ret I.env (d := .bool true) (xd_andV (a := true) (b := true) (samep _ _ I.di) fun h => xd_orV (a := true) (b := true) (xd_isN (d := .none) (xd_var (show some (othSD C g n L.f L.o) = _ by rw [hL]; rfl))) fun h => nomatch h) fun v H' e t => k v H' (I.ex.trans e) t
        | some qb =>
          obtain ⟨q0, b0⟩ := qb
          refine s_ret I.env (d := .bool true) (xd_andV (a := true) (b := true) (samep _ _ I.di) fun h => xd_orV (a := false) (b := true) (xd_isNp (p := q0) (show some (othSD C g n L.f L.o) = _ by rw [hL]; rfl)) fun h => sameq _ _ q0 b0 hL I.fi) fun v H' e t => k v H' (I.ex.trans e) t
end

end Q3

namespace Q3
open PySem L2 Evl
/-- an error of a class is what an except clause of the class names -/
theorem exm_self {K : PySem.W.Frag} {S : Addr} (h1 : PySem.W.subIn K (.ref S) (.type "BaseException") = some true) (h2 : PySem.W.hasDictIn K S = true) (h3 : PySem.W.typeIn K (.ref S) = some (.type "type")) (h4 : PySem.W.subIn K (.ref S) (.ref S) = some true) : PySem.W.exmOne K (.ref S) (.ref S) = some true := PySem.W.exm_ref h1 h2 h3 h4
theorem all_mk {l : PySem.W.OpenLaw} {w : World} {K : PySem.W.Frag} {h : Heap} {mg : Str → Option Value} {fa C : Addr} (X : K.In h) (G : h.Ns mainGlobals mg) (hfa : mg "law" = some (.ref fa))
    {x0 x1 x2 x3 x4 x5 x6 x7 x8 : Addr} {f0 f1 f2 f3 f4 f5 f6 f7 f8 f9 f10 f11 f12 f13 f14 f15 f16 f17 f18 f19 f20 f21 f22 f23 f24 f25 f26 f27 f28 f29 f30 f31 f32 f33 f34 f35 f36 f37 f38 f39 f40 f41 f42 f43 f44 : Addr}
    {od0 an0 od1 an1 od2 an2 od3 an3 od4 an4 od5 an5 od6 an6 od7 an7 od8 an8 od9 an9 od10 an10 od11 an11 od12 an12 od13 an13 od14 an14 od15 an15 od16 an16 od17 an17 od18 an18 od19 an19 od20 an20 od21 an21 od22 an22 od23 an23 od24 an24 od25 an25 od26 an26 od27 an27 od28 an28 od29 an29 od30 an30 od31 an31 od32 an32 od33 an33 od34 an34 od35 an35 od36 an36 od37 an37 od38 an38 od39 an39 od40 an40 od41 an41 od42 an42 od43 an43 od44 an44 : Option Addr}
    {sl0 sl1 sl2 sl3 sl4 sl5 sl6 sl7 sl8 sl9 sl10 sl11 sl12 sl13 sl14 sl15 sl16 sl17 sl18 sl19 sl20 sl21 sl22 sl23 sl24 sl25 sl26 sl27 sl28 sl29 sl30 sl31 sl32 sl33 sl34 sl35 sl36 sl37 sl38 sl39 sl40 sl41 sl42 sl43 sl44 : Array (Option Value)}
    {oc0 kV0 dc0 pm0 cd0 ct0 oc1 kV1 dc1 pm1 cd1 ct1 oc2 kV2 dc2 pm2 cd2 ct2 oc3 kV3 dc3 pm3 cd3 ct3 oc4 kV4 dc4 pm4 cd4 ct4 oc5 kV5 dc5 pm5 cd5 ct5 oc6 kV6 dc6 pm6 cd6 ct6 oc7 kV7 dc7 pm7 cd7 ct7 oc8 kV8 dc8 pm8 cd8 ct8 oc9 kV9 dc9 pm9 cd9 ct9 oc10 kV10 dc10 pm10 cd10 ct10 oc11 kV11 dc11 pm11 cd11 ct11 oc12 kV12 dc12 pm12 cd12 ct12 oc13 kV13 dc13 pm13 cd13 ct13 oc14 kV14 dc14 pm14 cd14 ct14 oc15 kV15 dc15 pm15 cd15 ct15 oc16 kV16 dc16 pm16 cd16 ct16 oc17 kV17 dc17 pm17 cd17 ct17 oc18 kV18 dc18 pm18 cd18 ct18 oc19 kV19 dc19 pm19 cd19 ct19 oc20 kV20 dc20 pm20 cd20 ct20 oc21 kV21 dc21 pm21 cd21 ct21 oc22 kV22 dc22 pm22 cd22 ct22 oc23 kV23 dc23 pm23 cd23 ct23 oc24 kV24 dc24 pm24 cd24 ct24 oc25 kV25 dc25 pm25 cd25 ct25 oc26 kV26 dc26 pm26 cd26 ct26 oc27 kV27 dc27 pm27 cd27 ct27 oc28 kV28 dc28 pm28 cd28 ct28 oc29 kV29 dc29 pm29 cd29 ct29 oc30 kV30 dc30 pm30 cd30 ct30 oc31 kV31 dc31 pm31 cd31 ct31 oc32 kV32 dc32 pm32 cd32 ct32 oc33 kV33 dc33 pm33 cd33 ct33 oc34 kV34 dc34 pm34 cd34 ct34 oc35 kV35 dc35 pm35 cd35 ct35 oc36 kV36 dc36 pm36 cd36 ct36 oc37 kV37 dc37 pm37 cd37 ct37 oc38 kV38 dc38 pm38 cd38 ct38 oc39 kV39 dc39 pm39 cd39 ct39 oc40 kV40 dc40 pm40 cd40 ct40 oc41 kV41 dc41 pm41 cd41 ct41 oc42 kV42 dc42 pm42 cd42 ct42 oc43 kV43 dc43 pm43 cd43 ct43 oc44 kV44 dc44 pm44 cd44 ct44 : Value}
    (aC : PySem.W.nsIn K mainGlobals "Play" = some (some (.ref C)))
    (ax0 : PySem.W.nsIn K mainGlobals "CalmError" = some (some (.ref x0)))
    (ax1 : PySem.W.nsIn K mainGlobals "NoText" = some (some (.ref x1)))
    (ax2 : PySem.W.nsIn K mainGlobals "Broken" = some (some (.ref x2)))
    (ax3 : PySem.W.nsIn K mainGlobals "Crowded" = some (some (.ref x3)))
    (ax4 : PySem.W.nsIn K mainGlobals "TooMany" = some (some (.ref x4)))
    (ax5 : PySem.W.nsIn K mainGlobals "CalledOff" = some (some (.ref x5)))
    (ax6 : PySem.W.nsIn K mainGlobals "Clash" = some (some (.ref x6)))
    (ax7 : PySem.W.nsIn K mainGlobals "NoMove" = some (some (.ref x7)))
    (ax8 : PySem.W.nsIn K mainGlobals "NoPlace" = some (some (.ref x8)))
    (a0 : PySem.W.nsIn K mainGlobals "fits" = some (some (.ref f0)))
    (l0 : K.lookup f0 = some ⟨oc0, od0, .func (PySem.W.fnOf "fits" "fits" (defArgs s_fits) (defBody s_fits) (defScope s_fits) .none kV0 dc0 pm0 an0 cd0 ct0), sl0⟩)
    (c0 : PySem.W.codeIn K cd0 "fits" = true)
    (k0 : PySem.W.keepIn K (.ref f0) = true)
    (a1 : PySem.W.nsIn K mainGlobals "is_up" = some (some (.ref f1)))
    (l1 : K.lookup f1 = some ⟨oc1, od1, .func (PySem.W.fnOf "is_up" "is_up" (defArgs s_is_up) (defBody s_is_up) (defScope s_is_up) .none kV1 dc1 pm1 an1 cd1 ct1), sl1⟩)
    (c1 : PySem.W.codeIn K cd1 "is_up" = true)
    (k1 : PySem.W.keepIn K (.ref f1) = true)
    (a2 : PySem.W.nsIn K mainGlobals "bits" = some (some (.ref f2)))
    (l2 : K.lookup f2 = some ⟨oc2, od2, .func (PySem.W.fnOf "bits" "bits" (defArgs s_bits) (defBody s_bits) (defScope s_bits) .none kV2 dc2 pm2 an2 cd2 ct2), sl2⟩)
    (c2 : PySem.W.codeIn K cd2 "bits" = true)
    (k2 : PySem.W.keepIn K (.ref f2) = true)
    (a3 : PySem.W.nsIn K mainGlobals "can" = some (some (.ref f3)))
    (l3 : K.lookup f3 = some ⟨oc3, od3, .func (PySem.W.fnOf "can" "can" (defArgs s_can) (defBody s_can) (defScope s_can) .none kV3 dc3 pm3 an3 cd3 ct3), sl3⟩)
    (c3 : PySem.W.codeIn K cd3 "can" = true)
    (k3 : PySem.W.keepIn K (.ref f3) = true)
    (a4 : PySem.W.nsIn K mainGlobals "behind" = some (some (.ref f4)))
    (l4 : K.lookup f4 = some ⟨oc4, od4, .func (PySem.W.fnOf "behind" "behind" (defArgs s_behind) (defBody s_behind) (defScope s_behind) .none kV4 dc4 pm4 an4 cd4 ct4), sl4⟩)
    (c4 : PySem.W.codeIn K cd4 "behind" = true)
    (k4 : PySem.W.keepIn K (.ref f4) = true)
    (a5 : PySem.W.nsIn K mainGlobals "gates_of" = some (some (.ref f5)))
    (l5 : K.lookup f5 = some ⟨oc5, od5, .func (PySem.W.fnOf "gates_of" "gates_of" (defArgs s_gates_of) (defBody s_gates_of) (defScope s_gates_of) .none kV5 dc5 pm5 an5 cd5 ct5), sl5⟩)
    (c5 : PySem.W.codeIn K cd5 "gates_of" = true)
    (k5 : PySem.W.keepIn K (.ref f5) = true)
    (a6 : PySem.W.nsIn K mainGlobals "wire_called" = some (some (.ref f6)))
    (l6 : K.lookup f6 = some ⟨oc6, od6, .func (PySem.W.fnOf "wire_called" "wire_called" (defArgs s_wire_called) (defBody s_wire_called) (defScope s_wire_called) .none kV6 dc6 pm6 an6 cd6 ct6), sl6⟩)
    (c6 : PySem.W.codeIn K cd6 "wire_called" = true)
    (k6 : PySem.W.keepIn K (.ref f6) = true)
    (a7 : PySem.W.nsIn K mainGlobals "step_for" = some (some (.ref f7)))
    (l7 : K.lookup f7 = some ⟨oc7, od7, .func (PySem.W.fnOf "step_for" "step_for" (defArgs s_step_for) (defBody s_step_for) (defScope s_step_for) .none kV7 dc7 pm7 an7 cd7 ct7), sl7⟩)
    (c7 : PySem.W.codeIn K cd7 "step_for" = true)
    (k7 : PySem.W.keepIn K (.ref f7) = true)
    (a8 : PySem.W.nsIn K mainGlobals "apart" = some (some (.ref f8)))
    (l8 : K.lookup f8 = some ⟨oc8, od8, .func (PySem.W.fnOf "apart" "apart" (defArgs s_apart) (defBody s_apart) (defScope s_apart) .none kV8 dc8 pm8 an8 cd8 ct8), sl8⟩)
    (c8 : PySem.W.codeIn K cd8 "apart" = true)
    (k8 : PySem.W.keepIn K (.ref f8) = true)
    (a9 : PySem.W.nsIn K mainGlobals "rows_apart" = some (some (.ref f9)))
    (l9 : K.lookup f9 = some ⟨oc9, od9, .func (PySem.W.fnOf "rows_apart" "rows_apart" (defArgs s_rows_apart) (defBody s_rows_apart) (defScope s_rows_apart) .none kV9 dc9 pm9 an9 cd9 ct9), sl9⟩)
    (c9 : PySem.W.codeIn K cd9 "rows_apart" = true)
    (k9 : PySem.W.keepIn K (.ref f9) = true)
    (a10 : PySem.W.findIn K (.ref C) "__init__" = some (some (.ref f10)))
    (i10 : PySem.W.isFn K (.ref f10) = true)
    (l10 : K.lookup f10 = some ⟨oc10, od10, .func (PySem.W.fnOf "__init__" "Play.__init__" (defArgs s_P_init) (defBody s_P_init) (defScope s_P_init) .none kV10 dc10 pm10 an10 cd10 ct10), sl10⟩)
    (c10 : PySem.W.codeIn K cd10 "Play.__init__" = true)
    (k10 : PySem.W.keepIn K (.ref f10) = true)
    (a11 : PySem.W.findIn K (.ref C) "stand" = some (some (.ref f11)))
    (i11 : PySem.W.isFn K (.ref f11) = true)
    (l11 : K.lookup f11 = some ⟨oc11, od11, .func (PySem.W.fnOf "stand" "Play.stand" (defArgs s_P_stand) (defBody s_P_stand) (defScope s_P_stand) .none kV11 dc11 pm11 an11 cd11 ct11), sl11⟩)
    (c11 : PySem.W.codeIn K cd11 "Play.stand" = true)
    (k11 : PySem.W.keepIn K (.ref f11) = true)
    (a12 : PySem.W.findIn K (.ref C) "level" = some (some (.ref f12)))
    (i12 : PySem.W.isFn K (.ref f12) = true)
    (l12 : K.lookup f12 = some ⟨oc12, od12, .func (PySem.W.fnOf "level" "Play.level" (defArgs s_P_level) (defBody s_P_level) (defScope s_P_level) .none kV12 dc12 pm12 an12 cd12 ct12), sl12⟩)
    (c12 : PySem.W.codeIn K cd12 "Play.level" = true)
    (k12 : PySem.W.keepIn K (.ref f12) = true)
    (a13 : PySem.W.findIn K (.ref C) "called" = some (some (.ref f13)))
    (i13 : PySem.W.isFn K (.ref f13) = true)
    (l13 : K.lookup f13 = some ⟨oc13, od13, .func (PySem.W.fnOf "called" "Play.called" (defArgs s_P_called) (defBody s_P_called) (defScope s_P_called) .none kV13 dc13 pm13 an13 cd13 ct13), sl13⟩)
    (c13 : PySem.W.codeIn K cd13 "Play.called" = true)
    (k13 : PySem.W.keepIn K (.ref f13) = true)
    (a14 : PySem.W.findIn K (.ref C) "moves" = some (some (.ref f14)))
    (i14 : PySem.W.isFn K (.ref f14) = true)
    (l14 : K.lookup f14 = some ⟨oc14, od14, .func (PySem.W.fnOf "moves" "Play.moves" (defArgs s_P_moves) (defBody s_P_moves) (defScope s_P_moves) .none kV14 dc14 pm14 an14 cd14 ct14), sl14⟩)
    (c14 : PySem.W.codeIn K cd14 "Play.moves" = true)
    (k14 : PySem.W.keepIn K (.ref f14) = true)
    (a15 : PySem.W.findIn K (.ref C) "go" = some (some (.ref f15)))
    (i15 : PySem.W.isFn K (.ref f15) = true)
    (l15 : K.lookup f15 = some ⟨oc15, od15, .func (PySem.W.fnOf "go" "Play.go" (defArgs s_P_go) (defBody s_P_go) (defScope s_P_go) .none kV15 dc15 pm15 an15 cd15 ct15), sl15⟩)
    (c15 : PySem.W.codeIn K cd15 "Play.go" = true)
    (k15 : PySem.W.keepIn K (.ref f15) = true)
    (a16 : PySem.W.findIn K (.ref C) "twin" = some (some (.ref f16)))
    (i16 : PySem.W.isFn K (.ref f16) = true)
    (l16 : K.lookup f16 = some ⟨oc16, od16, .func (PySem.W.fnOf "twin" "Play.twin" (defArgs s_P_twin) (defBody s_P_twin) (defScope s_P_twin) .none kV16 dc16 pm16 an16 cd16 ct16), sl16⟩)
    (c16 : PySem.W.codeIn K cd16 "Play.twin" = true)
    (k16 : PySem.W.keepIn K (.ref f16) = true)
    (a17 : PySem.W.nsIn K mainGlobals "_law_mix" = some (some (.ref f17)))
    (l17 : K.lookup f17 = some ⟨oc17, od17, .func (PySem.W.fnOf "_law_mix" "_law_mix" (defArgs s_l_mix) (defBody s_l_mix) (defScope s_l_mix) .none kV17 dc17 pm17 an17 cd17 ct17), sl17⟩)
    (c17 : PySem.W.codeIn K cd17 "_law_mix" = true)
    (k17 : PySem.W.keepIn K (.ref f17) = true)
    (a18 : PySem.W.nsIn K mainGlobals "_law_word" = some (some (.ref f18)))
    (l18 : K.lookup f18 = some ⟨oc18, od18, .func (PySem.W.fnOf "_law_word" "_law_word" (defArgs s_l_word) (defBody s_l_word) (defScope s_l_word) .none kV18 dc18 pm18 an18 cd18 ct18), sl18⟩)
    (c18 : PySem.W.codeIn K cd18 "_law_word" = true)
    (k18 : PySem.W.keepIn K (.ref f18) = true)
    (a19 : PySem.W.nsIn K mainGlobals "_law_order" = some (some (.ref f19)))
    (l19 : K.lookup f19 = some ⟨oc19, od19, .func (PySem.W.fnOf "_law_order" "_law_order" (defArgs s_l_order) (defBody s_l_order) (defScope s_l_order) .none kV19 dc19 pm19 an19 cd19 ct19), sl19⟩)
    (c19 : PySem.W.codeIn K cd19 "_law_order" = true)
    (k19 : PySem.W.keepIn K (.ref f19) = true)
    (a20 : PySem.W.nsIn K mainGlobals "_law_arrows" = some (some (.ref f20)))
    (l20 : K.lookup f20 = some ⟨oc20, od20, .func (PySem.W.fnOf "_law_arrows" "_law_arrows" (defArgs s_l_arrows) (defBody s_l_arrows) (defScope s_l_arrows) .none kV20 dc20 pm20 an20 cd20 ct20), sl20⟩)
    (c20 : PySem.W.codeIn K cd20 "_law_arrows" = true)
    (k20 : PySem.W.keepIn K (.ref f20) = true)
    (a21 : PySem.W.nsIn K mainGlobals "_law_graph" = some (some (.ref f21)))
    (l21 : K.lookup f21 = some ⟨oc21, od21, .func (PySem.W.fnOf "_law_graph" "_law_graph" (defArgs s_l_graph) (defBody s_l_graph) (defScope s_l_graph) .none kV21 dc21 pm21 an21 cd21 ct21), sl21⟩)
    (c21 : PySem.W.codeIn K cd21 "_law_graph" = true)
    (k21 : PySem.W.keepIn K (.ref f21) = true)
    (a22 : PySem.W.nsIn K mainGlobals "_law_can" = some (some (.ref f22)))
    (l22 : K.lookup f22 = some ⟨oc22, od22, .func (PySem.W.fnOf "_law_can" "_law_can" (defArgs s_l_can) (defBody s_l_can) (defScope s_l_can) .none kV22 dc22 pm22 an22 cd22 ct22), sl22⟩)
    (c22 : PySem.W.codeIn K cd22 "_law_can" = true)
    (k22 : PySem.W.keepIn K (.ref f22) = true)
    (a23 : PySem.W.nsIn K mainGlobals "_law_behind" = some (some (.ref f23)))
    (l23 : K.lookup f23 = some ⟨oc23, od23, .func (PySem.W.fnOf "_law_behind" "_law_behind" (defArgs s_l_behind) (defBody s_l_behind) (defScope s_l_behind) .none kV23 dc23 pm23 an23 cd23 ct23), sl23⟩)
    (c23 : PySem.W.codeIn K cd23 "_law_behind" = true)
    (k23 : PySem.W.keepIn K (.ref f23) = true)
    (a24 : PySem.W.nsIn K mainGlobals "_law_stands" = some (some (.ref f24)))
    (l24 : K.lookup f24 = some ⟨oc24, od24, .func (PySem.W.fnOf "_law_stands" "_law_stands" (defArgs s_l_stands) (defBody s_l_stands) (defScope s_l_stands) .none kV24 dc24 pm24 an24 cd24 ct24), sl24⟩)
    (c24 : PySem.W.codeIn K cd24 "_law_stands" = true)
    (k24 : PySem.W.keepIn K (.ref f24) = true)
    (a25 : PySem.W.nsIn K mainGlobals "_law_want" = some (some (.ref f25)))
    (l25 : K.lookup f25 = some ⟨oc25, od25, .func (PySem.W.fnOf "_law_want" "_law_want" (defArgs s_l_want) (defBody s_l_want) (defScope s_l_want) .none kV25 dc25 pm25 an25 cd25 ct25), sl25⟩)
    (c25 : PySem.W.codeIn K cd25 "_law_want" = true)
    (k25 : PySem.W.keepIn K (.ref f25) = true)
    (a26 : PySem.W.nsIn K mainGlobals "_law_choice" = some (some (.ref f26)))
    (l26 : K.lookup f26 = some ⟨oc26, od26, .func (PySem.W.fnOf "_law_choice" "_law_choice" (defArgs s_l_choice) (defBody s_l_choice) (defScope s_l_choice) .none kV26 dc26 pm26 an26 cd26 ct26), sl26⟩)
    (c26 : PySem.W.codeIn K cd26 "_law_choice" = true)
    (k26 : PySem.W.keepIn K (.ref f26) = true)
    (a27 : PySem.W.nsIn K mainGlobals "_law_wider" = some (some (.ref f27)))
    (l27 : K.lookup f27 = some ⟨oc27, od27, .func (PySem.W.fnOf "_law_wider" "_law_wider" (defArgs s_l_wider) (defBody s_l_wider) (defScope s_l_wider) .none kV27 dc27 pm27 an27 cd27 ct27), sl27⟩)
    (c27 : PySem.W.codeIn K cd27 "_law_wider" = true)
    (k27 : PySem.W.keepIn K (.ref f27) = true)
    (a28 : PySem.W.nsIn K mainGlobals "_law_lookers" = some (some (.ref f28)))
    (l28 : K.lookup f28 = some ⟨oc28, od28, .func (PySem.W.fnOf "_law_lookers" "_law_lookers" (defArgs s_l_lookers) (defBody s_l_lookers) (defScope s_l_lookers) .none kV28 dc28 pm28 an28 cd28 ct28), sl28⟩)
    (c28 : PySem.W.codeIn K cd28 "_law_lookers" = true)
    (k28 : PySem.W.keepIn K (.ref f28) = true)
    (a29 : PySem.W.nsIn K mainGlobals "_law_any_graph" = some (some (.ref f29)))
    (l29 : K.lookup f29 = some ⟨oc29, od29, .func (PySem.W.fnOf "_law_any_graph" "_law_any_graph" (defArgs s_l_any_graph) (defBody s_l_any_graph) (defScope s_l_any_graph) .none kV29 dc29 pm29 an29 cd29 ct29), sl29⟩)
    (c29 : PySem.W.codeIn K cd29 "_law_any_graph" = true)
    (k29 : PySem.W.keepIn K (.ref f29) = true)
    (a30 : PySem.W.nsIn K mainGlobals "_law_gates" = some (some (.ref f30)))
    (l30 : K.lookup f30 = some ⟨oc30, od30, .func (PySem.W.fnOf "_law_gates" "_law_gates" (defArgs s_l_gates) (defBody s_l_gates) (defScope s_l_gates) .none kV30 dc30 pm30 an30 cd30 ct30), sl30⟩)
    (c30 : PySem.W.codeIn K cd30 "_law_gates" = true)
    (k30 : PySem.W.keepIn K (.ref f30) = true)
    (a31 : PySem.W.nsIn K mainGlobals "_law_up" = some (some (.ref f31)))
    (l31 : K.lookup f31 = some ⟨oc31, od31, .func (PySem.W.fnOf "_law_up" "_law_up" (defArgs s_l_up) (defBody s_l_up) (defScope s_l_up) .none kV31 dc31 pm31 an31 cd31 ct31), sl31⟩)
    (c31 : PySem.W.codeIn K cd31 "_law_up" = true)
    (k31 : PySem.W.keepIn K (.ref f31) = true)
    (a32 : PySem.W.nsIn K mainGlobals "_law_called" = some (some (.ref f32)))
    (l32 : K.lookup f32 = some ⟨oc32, od32, .func (PySem.W.fnOf "_law_called" "_law_called" (defArgs s_l_called) (defBody s_l_called) (defScope s_l_called) .none kV32 dc32 pm32 an32 cd32 ct32), sl32⟩)
    (c32 : PySem.W.codeIn K cd32 "_law_called" = true)
    (k32 : PySem.W.keepIn K (.ref f32) = true)
    (a33 : PySem.W.nsIn K mainGlobals "_law_moves" = some (some (.ref f33)))
    (l33 : K.lookup f33 = some ⟨oc33, od33, .func (PySem.W.fnOf "_law_moves" "_law_moves" (defArgs s_l_moves) (defBody s_l_moves) (defScope s_l_moves) .none kV33 dc33 pm33 an33 cd33 ct33), sl33⟩)
    (c33 : PySem.W.codeIn K cd33 "_law_moves" = true)
    (k33 : PySem.W.keepIn K (.ref f33) = true)
    (a34 : PySem.W.nsIn K mainGlobals "_law_wire_step" = some (some (.ref f34)))
    (l34 : K.lookup f34 = some ⟨oc34, od34, .func (PySem.W.fnOf "_law_wire_step" "_law_wire_step" (defArgs s_l_wire_step) (defBody s_l_wire_step) (defScope s_l_wire_step) .none kV34 dc34 pm34 an34 cd34 ct34), sl34⟩)
    (c34 : PySem.W.codeIn K cd34 "_law_wire_step" = true)
    (k34 : PySem.W.keepIn K (.ref f34) = true)
    (a35 : PySem.W.nsIn K mainGlobals "_law_gone" = some (some (.ref f35)))
    (l35 : K.lookup f35 = some ⟨oc35, od35, .func (PySem.W.fnOf "_law_gone" "_law_gone" (defArgs s_l_gone) (defBody s_l_gone) (defScope s_l_gone) .none kV35 dc35 pm35 an35 cd35 ct35), sl35⟩)
    (c35 : PySem.W.codeIn K cd35 "_law_gone" = true)
    (k35 : PySem.W.keepIn K (.ref f35) = true)
    (a36 : PySem.W.nsIn K mainGlobals "_law_begun" = some (some (.ref f36)))
    (l36 : K.lookup f36 = some ⟨oc36, od36, .func (PySem.W.fnOf "_law_begun" "_law_begun" (defArgs s_l_begun) (defBody s_l_begun) (defScope s_l_begun) .none kV36 dc36 pm36 an36 cd36 ct36), sl36⟩)
    (c36 : PySem.W.codeIn K cd36 "_law_begun" = true)
    (k36 : PySem.W.keepIn K (.ref f36) = true)
    (a37 : PySem.W.nsIn K mainGlobals "_law_any_gate" = some (some (.ref f37)))
    (l37 : K.lookup f37 = some ⟨oc37, od37, .func (PySem.W.fnOf "_law_any_gate" "_law_any_gate" (defArgs s_l_any_gate) (defBody s_l_any_gate) (defScope s_l_any_gate) .none kV37 dc37 pm37 an37 cd37 ct37), sl37⟩)
    (c37 : PySem.W.codeIn K cd37 "_law_any_gate" = true)
    (k37 : PySem.W.keepIn K (.ref f37) = true)
    (a38 : PySem.W.nsIn K mainGlobals "_law_any_net" = some (some (.ref f38)))
    (l38 : K.lookup f38 = some ⟨oc38, od38, .func (PySem.W.fnOf "_law_any_net" "_law_any_net" (defArgs s_l_any_net) (defBody s_l_any_net) (defScope s_l_any_net) .none kV38 dc38 pm38 an38 cd38 ct38), sl38⟩)
    (c38 : PySem.W.codeIn K cd38 "_law_any_net" = true)
    (k38 : PySem.W.keepIn K (.ref f38) = true)
    (a39 : PySem.W.nsIn K mainGlobals "_law_same" = some (some (.ref f39)))
    (l39 : K.lookup f39 = some ⟨oc39, od39, .func (PySem.W.fnOf "_law_same" "_law_same" (defArgs s_l_same) (defBody s_l_same) (defScope s_l_same) .none kV39 dc39 pm39 an39 cd39 ct39), sl39⟩)
    (c39 : PySem.W.codeIn K cd39 "_law_same" = true)
    (k39 : PySem.W.keepIn K (.ref f39) = true)
    (a40 : PySem.W.nsIn K mainGlobals "_law_refused" = some (some (.ref f40)))
    (l40 : K.lookup f40 = some ⟨oc40, od40, .func (PySem.W.fnOf "_law_refused" "_law_refused" (defArgs s_l_refused) (defBody s_l_refused) (defScope s_l_refused) .none kV40 dc40 pm40 an40 cd40 ct40), sl40⟩)
    (c40 : PySem.W.codeIn K cd40 "_law_refused" = true)
    (k40 : PySem.W.keepIn K (.ref f40) = true)
    (a41 : PySem.W.nsIn K mainGlobals "_law_within" = some (some (.ref f41)))
    (l41 : K.lookup f41 = some ⟨oc41, od41, .func (PySem.W.fnOf "_law_within" "_law_within" (defArgs s_l_within) (defBody s_l_within) (defScope s_l_within) .none kV41 dc41 pm41 an41 cd41 ct41), sl41⟩)
    (c41 : PySem.W.codeIn K cd41 "_law_within" = true)
    (k41 : PySem.W.keepIn K (.ref f41) = true)
    (a42 : PySem.W.nsIn K mainGlobals "_law_others" = some (some (.ref f42)))
    (l42 : K.lookup f42 = some ⟨oc42, od42, .func (PySem.W.fnOf "_law_others" "_law_others" (defArgs s_l_others) (defBody s_l_others) (defScope s_l_others) .none kV42 dc42 pm42 an42 cd42 ct42), sl42⟩)
    (c42 : PySem.W.codeIn K cd42 "_law_others" = true)
    (k42 : PySem.W.keepIn K (.ref f42) = true)
    (a43 : PySem.W.nsIn K mainGlobals "_law_moved" = some (some (.ref f43)))
    (l43 : K.lookup f43 = some ⟨oc43, od43, .func (PySem.W.fnOf "_law_moved" "_law_moved" (defArgs s_l_moved) (defBody s_l_moved) (defScope s_l_moved) .none kV43 dc43 pm43 an43 cd43 ct43), sl43⟩)
    (c43 : PySem.W.codeIn K cd43 "_law_moved" = true)
    (k43 : PySem.W.keepIn K (.ref f43) = true)
    (a44 : PySem.W.nsIn K mainGlobals "law" = some (some (.ref f44)))
    (l44 : K.lookup f44 = some ⟨oc44, od44, .func (PySem.W.fnOf "law" "law" (defArgs s_law) (defBody s_law) (defScope s_law) .none kV44 dc44 pm44 an44 cd44 ct44), sl44⟩)
    (c44 : PySem.W.codeIn K cd44 "law" = true)
    (k44 : PySem.W.keepIn K (.ref f44) = true)
    (pg : PySem.W.plainGet K C Str.empty = true)
    (hd : PySem.W.hasDictIn K C = true)
    (po : PySem.W.plainOver K C = true)
    (sa : PySem.W.findIn K (.ref C) "__setattr__" = some (some (.builtin "object.__setattr__")))
    (mk : PySem.W.makesIn K C = true)
    (kc : PySem.W.keepIn K (.ref C) = true)
    (n_graph : PySem.W.findIn K (.ref C) "graph" = some none)
    (n_net : PySem.W.findIn K (.ref C) "net" = some none)
    (n_here : PySem.W.findIn K (.ref C) "here" = some none)
    (n_levels : PySem.W.findIn K (.ref C) "levels" = some none)
    (xN : PySem.W.excIn K x7 [.type "ValueError", .type "Exception", .type "BaseException", .type "object"] "ValueError.__new__" = true)
    (kN : PySem.W.keepIn K (.ref x7) = true)
    (bN : PySem.W.subIn K (.ref x7) (.type "BaseException") = some true)
    (tN : PySem.W.typeIn K (.ref x7) = some (.type "type"))
    (sN : PySem.W.subIn K (.ref x7) (.ref x7) = some true)
    (eg : PySem.W.findIn K (.ref x7) "__getattribute__" = some (some (.builtin "BaseException.__getattribute__")))
    (ek : PySem.W.findIn K (.ref x7) "__getattr__" = some none)
    (ed : PySem.W.hasDictIn K x7 = true)
    (ea : PySem.W.findIn K (.ref x7) "__class__" = some (some (.builtin "object.__class__")))
    (en : PySem.W.specialIn K (.builtin "object.__class__") "__get__" = some (some (.builtin "getset_descriptor.__get__")))
    (et : PySem.W.takesIn K (.builtin "object.__class__") = some true)
    (em : PySem.W.mroIn K x7 (.type "object") = some true)
    (iC : PySem.W.kitOne K (.ref x7) (.ref x0) = some true)
    (iV : PySem.W.kitOne K (.ref x7) (.type "ValueError") = some true)
    (iA : PySem.W.kitAny K (.ref x7) [.ref x2, .ref x5, .ref x6, .ref x3, .ref x8, .ref x1, .ref x4] = some false)
    (z_ValueError : PySem.W.nsIn K mainGlobals "ValueError" = some none)
    (z_enumerate : PySem.W.nsIn K mainGlobals "enumerate" = some none)
    (z_int : PySem.W.nsIn K mainGlobals "int" = some none)
    (z_isinstance : PySem.W.nsIn K mainGlobals "isinstance" = some none)
    (z_len : PySem.W.nsIn K mainGlobals "len" = some none)
    (z_list : PySem.W.nsIn K mainGlobals "list" = some none)
    (z_max : PySem.W.nsIn K mainGlobals "max" = some none)
    (z_min : PySem.W.nsIn K mainGlobals "min" = some none)
    (z_range : PySem.W.nsIn K mainGlobals "range" = some none)
    (z_sorted : PySem.W.nsIn K mainGlobals "sorted" = some none)
    (z_sum : PySem.W.nsIn K mainGlobals "sum" = some none)
    (z_tuple : PySem.W.nsIn K mainGlobals "tuple" = some none)
    (z_zip : PySem.W.nsIn K mainGlobals "zip" = some none)
    : ∃ fd : FuncData, (∀ (s : Shared) (v : Value), BindsTo s fd ⟨[v], []⟩ [("_law_script", v)]) ∧ ∀ base : Heap, K.In base → base.Ns mainGlobals mg → FnOk l.prog w K mg base CX0 8 fa fd ["_law_script"] (spG K D_law) := by
  have e := hfa.symm.trans (PySem.W.mg_of X G a44)
  cases e
  have F0 := fun_mk (st := s_fits) l0 c0 k0
  have b0 := F0.binds (ps := ["row", "code"]) fun _ _ _ _ _ _ us hl => match us, hl with | [_, _], _ => rfl
  generalize PySem.W.fnOf "fits" "fits" (defArgs s_fits) (defBody s_fits) (defScope s_fits) .none kV0 dc0 pm0 an0 cd0 ct0 = g0 at F0 b0
  have F1 := fun_mk (st := s_is_up) l1 c1 k1
  have b1 := F1.binds (ps := ["gate", "code"]) fun _ _ _ _ _ _ us hl => match us, hl with | [_, _], _ => rfl
  generalize PySem.W.fnOf "is_up" "is_up" (defArgs s_is_up) (defBody s_is_up) (defScope s_is_up) .none kV1 dc1 pm1 an1 cd1 ct1 = g1 at F1 b1
  have F2 := fun_mk (st := s_bits) l2 c2 k2
  have b2 := F2.binds (ps := ["some"]) fun _ _ _ _ _ _ us hl => match us, hl with | [_], _ => rfl
  generalize PySem.W.fnOf "bits" "bits" (defArgs s_bits) (defBody s_bits) (defScope s_bits) .none kV2 dc2 pm2 an2 cd2 ct2 = g2 at F2 b2
  have F3 := fun_mk (st := s_can) l3 c3 k3
  have b3 := F3.binds (ps := ["graph", "stand", "step"]) fun _ _ _ _ _ _ us hl => match us, hl with | [_, _, _], _ => rfl
  generalize PySem.W.fnOf "can" "can" (defArgs s_can) (defBody s_can) (defScope s_can) .none kV3 dc3 pm3 an3 cd3 ct3 = g3 at F3 b3
  have F4 := fun_mk (st := s_behind) l4 c4 k4
  have b4 := F4.binds (ps := ["graph", "stand", "step"]) fun _ _ _ _ _ _ us hl => match us, hl with | [_, _, _], _ => rfl
  generalize PySem.W.fnOf "behind" "behind" (defArgs s_behind) (defBody s_behind) (defScope s_behind) .none kV4 dc4 pm4 an4 cd4 ct4 = g4 at F4 b4
  have F5 := fun_mk (st := s_gates_of) l5 c5 k5
  have b5 := F5.binds (ps := ["net"]) fun _ _ _ _ _ _ us hl => match us, hl with | [_], _ => rfl
  generalize PySem.W.fnOf "gates_of" "gates_of" (defArgs s_gates_of) (defBody s_gates_of) (defScope s_gates_of) .none kV5 dc5 pm5 an5 cd5 ct5 = g5 at F5 b5
  have F6 := fun_mk (st := s_wire_called) l6 c6 k6
  have b6 := F6.binds (ps := ["gates", "levels", "code", "wire"]) fun _ _ _ _ _ _ us hl => match us, hl with | [_, _, _, _], _ => rfl
  generalize PySem.W.fnOf "wire_called" "wire_called" (defArgs s_wire_called) (defBody s_wire_called) (defScope s_wire_called) .none kV6 dc6 pm6 an6 cd6 ct6 = g6 at F6 b6
  have F7 := fun_mk (st := s_step_for) l7 c7 k7
  have b7 := F7.binds (ps := ["graph", "stand", "wire"]) fun _ _ _ _ _ _ us hl => match us, hl with | [_, _, _], _ => rfl
  generalize PySem.W.fnOf "step_for" "step_for" (defArgs s_step_for) (defBody s_step_for) (defScope s_step_for) .none kV7 dc7 pm7 an7 cd7 ct7 = g7 at F7 b7
  have F8 := fun_mk (st := s_apart) l8 c8 k8
  have b8 := F8.binds (ps := ["net"]) fun _ _ _ _ _ _ us hl => match us, hl with | [_], _ => rfl
  generalize PySem.W.fnOf "apart" "apart" (defArgs s_apart) (defBody s_apart) (defScope s_apart) .none kV8 dc8 pm8 an8 cd8 ct8 = g8 at F8 b8
  have F9 := fun_mk (st := s_rows_apart) l9 c9 k9
  have b9 := F9.binds (ps := ["gates"]) fun _ _ _ _ _ _ us hl => match us, hl with | [_], _ => rfl
  generalize PySem.W.fnOf "rows_apart" "rows_apart" (defArgs s_rows_apart) (defBody s_rows_apart) (defScope s_rows_apart) .none kV9 dc9 pm9 an9 cd9 ct9 = g9 at F9 b9
  have F10 := fun_mk (st := s_P_init) l10 c10 k10
  have b10 := F10.binds (ps := ["self", "graph", "net"]) fun _ _ _ _ _ _ us hl => match us, hl with | [_, _, _], _ => rfl
  generalize PySem.W.fnOf "__init__" "Play.__init__" (defArgs s_P_init) (defBody s_P_init) (defScope s_P_init) .none kV10 dc10 pm10 an10 cd10 ct10 = g10 at F10 b10
  have F11 := fun_mk (st := s_P_stand) l11 c11 k11
  have b11 := F11.binds (ps := ["self"]) fun _ _ _ _ _ _ us hl => match us, hl with | [_], _ => rfl
  generalize PySem.W.fnOf "stand" "Play.stand" (defArgs s_P_stand) (defBody s_P_stand) (defScope s_P_stand) .none kV11 dc11 pm11 an11 cd11 ct11 = g11 at F11 b11
  have F12 := fun_mk (st := s_P_level) l12 c12 k12
  have b12 := F12.binds (ps := ["self", "g"]) fun _ _ _ _ _ _ us hl => match us, hl with | [_, _], _ => rfl
  generalize PySem.W.fnOf "level" "Play.level" (defArgs s_P_level) (defBody s_P_level) (defScope s_P_level) .none kV12 dc12 pm12 an12 cd12 ct12 = g12 at F12 b12
  have F13 := fun_mk (st := s_P_called) l13 c13 k13
  have b13 := F13.binds (ps := ["self"]) fun _ _ _ _ _ _ us hl => match us, hl with | [_], _ => rfl
  generalize PySem.W.fnOf "called" "Play.called" (defArgs s_P_called) (defBody s_P_called) (defScope s_P_called) .none kV13 dc13 pm13 an13 cd13 ct13 = g13 at F13 b13
  have F14 := fun_mk (st := s_P_moves) l14 c14 k14
  have b14 := F14.binds (ps := ["self"]) fun _ _ _ _ _ _ us hl => match us, hl with | [_], _ => rfl
  generalize PySem.W.fnOf "moves" "Play.moves" (defArgs s_P_moves) (defBody s_P_moves) (defScope s_P_moves) .none kV14 dc14 pm14 an14 cd14 ct14 = g14 at F14 b14
  have F15 := fun_mk (st := s_P_go) l15 c15 k15
  have b15 := F15.binds (ps := ["self", "move"]) fun _ _ _ _ _ _ us hl => match us, hl with | [_, _], _ => rfl
  generalize PySem.W.fnOf "go" "Play.go" (defArgs s_P_go) (defBody s_P_go) (defScope s_P_go) .none kV15 dc15 pm15 an15 cd15 ct15 = g15 at F15 b15
  have F16 := fun_mk (st := s_P_twin) l16 c16 k16
  have b16 := F16.binds (ps := ["self"]) fun _ _ _ _ _ _ us hl => match us, hl with | [_], _ => rfl
  generalize PySem.W.fnOf "twin" "Play.twin" (defArgs s_P_twin) (defBody s_P_twin) (defScope s_P_twin) .none kV16 dc16 pm16 an16 cd16 ct16 = g16 at F16 b16
  have F17 := fun_mk (st := s_l_mix) l17 c17 k17
  have b17 := F17.binds (ps := ["_law_script", "_law_k"]) fun _ _ _ _ _ _ us hl => match us, hl with | [_, _], _ => rfl
  generalize PySem.W.fnOf "_law_mix" "_law_mix" (defArgs s_l_mix) (defBody s_l_mix) (defScope s_l_mix) .none kV17 dc17 pm17 an17 cd17 ct17 = g17 at F17 b17
  have F18 := fun_mk (st := s_l_word) l18 c18 k18
  have b18 := F18.binds (ps := ["_law_cell", "_law_k"]) fun _ _ _ _ _ _ us hl => match us, hl with | [_, _], _ => rfl
  generalize PySem.W.fnOf "_law_word" "_law_word" (defArgs s_l_word) (defBody s_l_word) (defScope s_l_word) .none kV18 dc18 pm18 an18 cd18 ct18 = g18 at F18 b18
  have F19 := fun_mk (st := s_l_order) l19 c19 k19
  have b19 := F19.binds (ps := ["_law_script", "_law_first", "_law_n"]) fun _ _ _ _ _ _ us hl => match us, hl with | [_, _, _], _ => rfl
  generalize PySem.W.fnOf "_law_order" "_law_order" (defArgs s_l_order) (defBody s_l_order) (defScope s_l_order) .none kV19 dc19 pm19 an19 cd19 ct19 = g19 at F19 b19
  have F20 := fun_mk (st := s_l_arrows) l20 c20 k20
  have b20 := F20.binds (ps := ["_law_script", "_law_first", "_law_many", "_law_size"]) fun _ _ _ _ _ _ us hl => match us, hl with | [_, _, _, _], _ => rfl
  generalize PySem.W.fnOf "_law_arrows" "_law_arrows" (defArgs s_l_arrows) (defBody s_l_arrows) (defScope s_l_arrows) .none kV20 dc20 pm20 an20 cd20 ct20 = g20 at F20 b20
  have F21 := fun_mk (st := s_l_graph) l21 c21 k21
  have b21 := F21.binds (ps := ["_law_script", "_law_first", "_law_n", "_law_many"]) fun _ _ _ _ _ _ us hl => match us, hl with | [_, _, _, _], _ => rfl
  generalize PySem.W.fnOf "_law_graph" "_law_graph" (defArgs s_l_graph) (defBody s_l_graph) (defScope s_l_graph) .none kV21 dc21 pm21 an21 cd21 ct21 = g21 at F21 b21
  have F22 := fun_mk (st := s_l_can) l22 c22 k22
  have b22 := F22.binds (ps := ["_law_graph_here", "_law_stand", "_law_step"]) fun _ _ _ _ _ _ us hl => match us, hl with | [_, _, _], _ => rfl
  generalize PySem.W.fnOf "_law_can" "_law_can" (defArgs s_l_can) (defBody s_l_can) (defScope s_l_can) .none kV22 dc22 pm22 an22 cd22 ct22 = g22 at F22 b22
  have F23 := fun_mk (st := s_l_behind) l23 c23 k23
  have b23 := F23.binds (ps := ["_law_graph_here", "_law_stand", "_law_step"]) fun _ _ _ _ _ _ us hl => match us, hl with | [_, _, _], _ => rfl
  generalize PySem.W.fnOf "_law_behind" "_law_behind" (defArgs s_l_behind) (defBody s_l_behind) (defScope s_l_behind) .none kV23 dc23 pm23 an23 cd23 ct23 = g23 at F23 b23
  have F24 := fun_mk (st := s_l_stands) l24 c24 k24
  have b24 := F24.binds (ps := ["_law_graph_here"]) fun _ _ _ _ _ _ us hl => match us, hl with | [_], _ => rfl
  generalize PySem.W.fnOf "_law_stands" "_law_stands" (defArgs s_l_stands) (defBody s_l_stands) (defScope s_l_stands) .none kV24 dc24 pm24 an24 cd24 ct24 = g24 at F24 b24
  have F25 := fun_mk (st := s_l_want) l25 c25 k25
  have b25 := F25.binds (ps := ["_law_graph_here", "_law_stand", "_law_wire"]) fun _ _ _ _ _ _ us hl => match us, hl with | [_, _, _], _ => rfl
  generalize PySem.W.fnOf "_law_want" "_law_want" (defArgs s_l_want) (defBody s_l_want) (defScope s_l_want) .none kV25 dc25 pm25 an25 cd25 ct25 = g25 at F25 b25
  have F26 := fun_mk (st := s_l_choice) l26 c26 k26
  have b26 := F26.binds (ps := ["_law_script", "_law_first"]) fun _ _ _ _ _ _ us hl => match us, hl with | [_, _], _ => rfl
  generalize PySem.W.fnOf "_law_choice" "_law_choice" (defArgs s_l_choice) (defBody s_l_choice) (defScope s_l_choice) .none kV26 dc26 pm26 an26 cd26 ct26 = g26 at F26 b26
  have F27 := fun_mk (st := s_l_wider) l27 c27 k27
  have b27 := F27.binds (ps := ["_law_graph_here", "_law_at", "_law_kind", "_law_up_here", "_law_word_here"]) fun _ _ _ _ _ _ us hl => match us, hl with | [_, _, _, _, _], _ => rfl
  generalize PySem.W.fnOf "_law_wider" "_law_wider" (defArgs s_l_wider) (defBody s_l_wider) (defScope s_l_wider) .none kV27 dc27 pm27 an27 cd27 ct27 = g27 at F27 b27
  have F28 := fun_mk (st := s_l_lookers) l28 c28 k28
  have b28 := F28.binds (ps := ["_law_graph_here", "_law_cell"]) fun _ _ _ _ _ _ us hl => match us, hl with | [_, _], _ => rfl
  generalize PySem.W.fnOf "_law_lookers" "_law_lookers" (defArgs s_l_lookers) (defBody s_l_lookers) (defScope s_l_lookers) .none kV28 dc28 pm28 an28 cd28 ct28 = g28 at F28 b28
  have F29 := fun_mk (st := s_l_any_graph) l29 c29 k29
  have b29 := F29.binds (ps := ["_law_script", "_law_first", "_law_most", "_law_arrows_here"]) fun _ _ _ _ _ _ us hl => match us, hl with | [_, _, _, _], _ => rfl
  generalize PySem.W.fnOf "_law_any_graph" "_law_any_graph" (defArgs s_l_any_graph) (defBody s_l_any_graph) (defScope s_l_any_graph) .none kV29 dc29 pm29 an29 cd29 ct29 = g29 at F29 b29
  have F30 := fun_mk (st := s_l_gates) l30 c30 k30
  have b30 := F30.binds (ps := ["_law_net"]) fun _ _ _ _ _ _ us hl => match us, hl with | [_], _ => rfl
  generalize PySem.W.fnOf "_law_gates" "_law_gates" (defArgs s_l_gates) (defBody s_l_gates) (defScope s_l_gates) .none kV30 dc30 pm30 an30 cd30 ct30 = g30 at F30 b30
  have F31 := fun_mk (st := s_l_up) l31 c31 k31
  have b31 := F31.binds (ps := ["_law_gate", "_law_code"]) fun _ _ _ _ _ _ us hl => match us, hl with | [_, _], _ => rfl
  generalize PySem.W.fnOf "_law_up" "_law_up" (defArgs s_l_up) (defBody s_l_up) (defScope s_l_up) .none kV31 dc31 pm31 an31 cd31 ct31 = g31 at F31 b31
  have F32 := fun_mk (st := s_l_called) l32 c32 k32
  have b32 := F32.binds (ps := ["_law_net", "_law_code", "_law_levels"]) fun _ _ _ _ _ _ us hl => match us, hl with | [_, _, _], _ => rfl
  generalize PySem.W.fnOf "_law_called" "_law_called" (defArgs s_l_called) (defBody s_l_called) (defScope s_l_called) .none kV32 dc32 pm32 an32 cd32 ct32 = g32 at F32 b32
  have F33 := fun_mk (st := s_l_moves) l33 c33 k33
  have b33 := F33.binds (ps := ["_law_graph_here", "_law_net", "_law_play"]) fun _ _ _ _ _ _ us hl => match us, hl with | [_, _, _], _ => rfl
  generalize PySem.W.fnOf "_law_moves" "_law_moves" (defArgs s_l_moves) (defBody s_l_moves) (defScope s_l_moves) .none kV33 dc33 pm33 an33 cd33 ct33 = g33 at F33 b33
  have F34 := fun_mk (st := s_l_wire_step) l34 c34 k34
  have b34 := F34.binds (ps := ["_law_graph_here", "_law_stand", "_law_wire"]) fun _ _ _ _ _ _ us hl => match us, hl with | [_, _, _], _ => rfl
  generalize PySem.W.fnOf "_law_wire_step" "_law_wire_step" (defArgs s_l_wire_step) (defBody s_l_wire_step) (defScope s_l_wire_step) .none kV34 dc34 pm34 an34 cd34 ct34 = g34 at F34 b34
  have F35 := fun_mk (st := s_l_gone) l35 c35 k35
  have b35 := F35.binds (ps := ["_law_graph_here", "_law_net", "_law_play", "_law_move"]) fun _ _ _ _ _ _ us hl => match us, hl with | [_, _, _, _], _ => rfl
  generalize PySem.W.fnOf "_law_gone" "_law_gone" (defArgs s_l_gone) (defBody s_l_gone) (defScope s_l_gone) .none kV35 dc35 pm35 an35 cd35 ct35 = g35 at F35 b35
  have F36 := fun_mk (st := s_l_begun) l36 c36 k36
  have b36 := F36.binds (ps := ["_law_graph_here", "_law_net"]) fun _ _ _ _ _ _ us hl => match us, hl with | [_, _], _ => rfl
  generalize PySem.W.fnOf "_law_begun" "_law_begun" (defArgs s_l_begun) (defBody s_l_begun) (defScope s_l_begun) .none kV36 dc36 pm36 an36 cd36 ct36 = g36 at F36 b36
  have F37 := fun_mk (st := s_l_any_gate) l37 c37 k37
  have b37 := F37.binds (ps := ["_law_script", "_law_first", "_law_graph_here", "_law_some", "_law_want_here", "_law_wire"]) fun _ _ _ _ _ _ us hl => match us, hl with | [_, _, _, _, _, _], _ => rfl
  generalize PySem.W.fnOf "_law_any_gate" "_law_any_gate" (defArgs s_l_any_gate) (defBody s_l_any_gate) (defScope s_l_any_gate) .none kV37 dc37 pm37 an37 cd37 ct37 = g37 at F37 b37
  have F38 := fun_mk (st := s_l_any_net) l38 c38 k38
  have b38 := F38.binds (ps := ["_law_script", "_law_first", "_law_graph_here", "_law_some"]) fun _ _ _ _ _ _ us hl => match us, hl with | [_, _, _, _], _ => rfl
  generalize PySem.W.fnOf "_law_any_net" "_law_any_net" (defArgs s_l_any_net) (defBody s_l_any_net) (defScope s_l_any_net) .none kV38 dc38 pm38 an38 cd38 ct38 = g38 at F38 b38
  have F39 := fun_mk (st := s_l_same) l39 c39 k39
  have b39 := F39.binds (ps := ["_law_play", "_law_graph_here", "_law_net", "_law_due"]) fun _ _ _ _ _ _ us hl => match us, hl with | [_, _, _, _], _ => rfl
  generalize PySem.W.fnOf "_law_same" "_law_same" (defArgs s_l_same) (defBody s_l_same) (defScope s_l_same) .none kV39 dc39 pm39 an39 cd39 ct39 = g39 at F39 b39
  have F40 := fun_mk (st := s_l_refused) l40 c40 k40
  have b40 := F40.binds (ps := ["_law_play", "_law_move"]) fun _ _ _ _ _ _ us hl => match us, hl with | [_, _], _ => rfl
  generalize PySem.W.fnOf "_law_refused" "_law_refused" (defArgs s_l_refused) (defBody s_l_refused) (defScope s_l_refused) .none kV40 dc40 pm40 an40 cd40 ct40 = g40 at F40 b40
  have F41 := fun_mk (st := s_l_within) l41 c41 k41
  have b41 := F41.binds (ps := ["_law_net"]) fun _ _ _ _ _ _ us hl => match us, hl with | [_], _ => rfl
  generalize PySem.W.fnOf "_law_within" "_law_within" (defArgs s_l_within) (defBody s_l_within) (defScope s_l_within) .none kV41 dc41 pm41 an41 cd41 ct41 = g41 at F41 b41
  have F42 := fun_mk (st := s_l_others) l42 c42 k42
  have b42 := F42.binds (ps := ["_law_graph_here", "_law_net", "_law_moves_here", "_law_far"]) fun _ _ _ _ _ _ us hl => match us, hl with | [_, _, _, _], _ => rfl
  generalize PySem.W.fnOf "_law_others" "_law_others" (defArgs s_l_others) (defBody s_l_others) (defScope s_l_others) .none kV42 dc42 pm42 an42 cd42 ct42 = g42 at F42 b42
  have F43 := fun_mk (st := s_l_moved) l43 c43 k43
  have b43 := F43.binds (ps := ["_law_play", "_law_graph_here", "_law_net", "_law_due", "_law_cell"]) fun _ _ _ _ _ _ us hl => match us, hl with | [_, _, _, _, _], _ => rfl
  generalize PySem.W.fnOf "_law_moved" "_law_moved" (defArgs s_l_moved) (defBody s_l_moved) (defScope s_l_moved) .none kV43 dc43 pm43 an43 cd43 ct43 = g43 at F43 b43
  have F44 := fun_mk (st := s_law) l44 c44 k44
  have b44 := F44.binds (ps := ["_law_script"]) fun _ _ _ _ _ _ us hl => match us, hl with | [_], _ => rfl
  have T : Top K mg C (fun i => [f0, f1, f2, f3, f4, f5, f6, f7, f8, f9, f10, f11, f12, f13, f14, f15, f16, f17, f18, f19, f20, f21, f22, f23, f24, f25, f26, f27, f28, f29, f30, f31, f32, f33, f34, f35, f36, f37, f38, f39, f40, f41, f42, f43, fa].getD i f0) (fun i => [g0, g1, g2, g3, g4, g5, g6, g7, g8, g9, g10, g11, g12, g13, g14, g15, g16, g17, g18, g19, g20, g21, g22, g23, g24, g25, g26, g27, g28, g29, g30, g31, g32, g33, g34, g35, g36, g37, g38, g39, g40, g41, g42, g43, (PySem.W.fnOf "law" "law" (defArgs s_law) (defBody s_law) (defScope s_law) .none kV44 dc44 pm44 an44 cd44 ct44)].getD i g0) (fun i => [x0, x1, x2, x3, x4, x5, x6, x7, x8].getD i x0) :=
    { cl := ⟨pg, hd, po, sa⟩, aG := n_graph, aN := n_net, aH := n_here, aL := n_levels, mkC := ⟨mk, a10, i10, kc⟩, gC := PySem.W.mg_of X G aC,
      g0 := PySem.W.mg_of X G ax0, g1 := PySem.W.mg_of X G ax1, g2 := PySem.W.mg_of X G ax2, g3 := PySem.W.mg_of X G ax3, g4 := PySem.W.mg_of X G ax4, g5 := PySem.W.mg_of X G ax5, g6 := PySem.W.mg_of X G ax6, g7 := PySem.W.mg_of X G ax7, g8 := PySem.W.mg_of X G ax8,
      xN := xN, kN := kN, bN := bN, tN := tN, eN := exm_self bN ed tN sN, cN := ⟨eg, ek, bN, ed, ea, en, et, em⟩, iC := iC, iV := iV, iA := iA,
      n_ValueError := PySem.W.mg_none_of X G z_ValueError, n_enumerate := PySem.W.mg_none_of X G z_enumerate, n_int := PySem.W.mg_none_of X G z_int, n_isinstance := PySem.W.mg_none_of X G z_isinstance, n_len := PySem.W.mg_none_of X G z_len, n_list := PySem.W.mg_none_of X G z_list, n_max := PySem.W.mg_none_of X G z_max, n_min := PySem.W.mg_none_of X G z_min, n_range := PySem.W.mg_none_of X G z_range, n_sorted := PySem.W.mg_none_of X G z_sorted, n_sum := PySem.W.mg_none_of X G z_sum, n_tuple := PySem.W.mg_none_of X G z_tuple, n_zip := PySem.W.mg_none_of X G z_zip,
      fits := ⟨F0, PySem.W.mg_of X G a0, b0⟩,
      is_up := ⟨F1, PySem.W.mg_of X G a1, b1⟩,
      bits := ⟨F2, PySem.W.mg_of X G a2, b2⟩,
      can := ⟨F3, PySem.W.mg_of X G a3, b3⟩,
      behind := ⟨F4, PySem.W.mg_of X G a4, b4⟩,
      gates_of := ⟨F5, PySem.W.mg_of X G a5, b5⟩,
      wire_called := ⟨F6, PySem.W.mg_of X G a6, b6⟩,
      step_for := ⟨F7, PySem.W.mg_of X G a7, b7⟩,
      apart := ⟨F8, PySem.W.mg_of X G a8, b8⟩,
      rows_apart := ⟨F9, PySem.W.mg_of X G a9, b9⟩,
      P_init := ⟨F10, b10⟩,
      P_stand := ⟨F11, b11⟩,
      P_stand_m := ⟨a11, i11, k11⟩,
      P_level := ⟨F12, b12⟩,
      P_level_m := ⟨a12, i12, k12⟩,
      P_called := ⟨F13, b13⟩,
      P_called_m := ⟨a13, i13, k13⟩,
      P_moves := ⟨F14, b14⟩,
      P_moves_m := ⟨a14, i14, k14⟩,
      P_go := ⟨F15, b15⟩,
      P_go_m := ⟨a15, i15, k15⟩,
      P_twin := ⟨F16, b16⟩,
      P_twin_m := ⟨a16, i16, k16⟩,
      l_mix := ⟨F17, PySem.W.mg_of X G a17, b17⟩,
      l_word := ⟨F18, PySem.W.mg_of X G a18, b18⟩,
      l_order := ⟨F19, PySem.W.mg_of X G a19, b19⟩,
      l_arrows := ⟨F20, PySem.W.mg_of X G a20, b20⟩,
      l_graph := ⟨F21, PySem.W.mg_of X G a21, b21⟩,
      l_can := ⟨F22, PySem.W.mg_of X G a22, b22⟩,
      l_behind := ⟨F23, PySem.W.mg_of X G a23, b23⟩,
      l_stands := ⟨F24, PySem.W.mg_of X G a24, b24⟩,
      l_want := ⟨F25, PySem.W.mg_of X G a25, b25⟩,
      l_choice := ⟨F26, PySem.W.mg_of X G a26, b26⟩,
      l_wider := ⟨F27, PySem.W.mg_of X G a27, b27⟩,
      l_lookers := ⟨F28, PySem.W.mg_of X G a28, b28⟩,
      l_any_graph := ⟨F29, PySem.W.mg_of X G a29, b29⟩,
      l_gates := ⟨F30, PySem.W.mg_of X G a30, b30⟩,
      l_up := ⟨F31, PySem.W.mg_of X G a31, b31⟩,
      l_called := ⟨F32, PySem.W.mg_of X G a32, b32⟩,
      l_moves := ⟨F33, PySem.W.mg_of X G a33, b33⟩,
      l_wire_step := ⟨F34, PySem.W.mg_of X G a34, b34⟩,
      l_gone := ⟨F35, PySem.W.mg_of X G a35, b35⟩,
      l_begun := ⟨F36, PySem.W.mg_of X G a36, b36⟩,
      l_any_gate := ⟨F37, PySem.W.mg_of X G a37, b37⟩,
      l_any_net := ⟨F38, PySem.W.mg_of X G a38, b38⟩,
      l_same := ⟨F39, PySem.W.mg_of X G a39, b39⟩,
      l_refused := ⟨F40, PySem.W.mg_of X G a40, b40⟩,
      l_within := ⟨F41, PySem.W.mg_of X G a41, b41⟩,
      l_others := ⟨F42, PySem.W.mg_of X G a42, b42⟩,
      l_moved := ⟨F43, PySem.W.mg_of X G a43, b43⟩,
      law := ⟨F44, PySem.W.mg_of X G a44, b44⟩ }
  exact ⟨_, fun s v => .of_eq rfl, fun base _ _ => ok_law T⟩
theorem walk {l : PySem.W.OpenLaw} {q : Program} {loose : List Str} {XP : (Str → Option Value) → Heap → Prop} {YP : World → Heap → Prop} {d : DefRec} {K : Params → PySem.W.Frag} (hn : l.most = some 63) (hdf : d.params.defaults = [])
    (hY : ∀ (w : World) (h : Heap), YP w h → (K w.params).In h)
    (F : ∀ (w : World) (mg : Str → Option Value) (fa : Addr) (h : Heap), (K w.params).In h → h.Ns mainGlobals mg → mg d.name = some (.ref fa) →
      ∃ fd : FuncData, (∀ (s : Shared) (u : Value), BindsTo s fd ⟨[u], []⟩ [("_law_script", u)]) ∧ ∀ base : Heap, (K w.params).In base → base.Ns mainGlobals mg → FnOk l.prog w (K w.params) mg base CX0 8 fa fd ["_law_script"] (spG (K w.params) D_law)) :
    PySem.W.WalkO q loose XP YP l.row.toRowW d [] (fun f vs => PySem.call f vs) :=
  L2.walk_of (n := 63) (k := 8) (x := "_law_script") (CX := fun _ => CX0) (sp := fun w => spG (K w.params) D_law) hn (by decide) hdf ⟨rfl, by decide, by decide⟩ hY F
    (fun _ _ a ns hl _ hS => ⟨[.rdl (ns.map .int)], RD (.bool true), .cons ⟨a, _, rfl, hS, tp_ints ns⟩ .nil, ⟨ns, rfl, rfl⟩, fun v H2 _ t => t.bl_eq⟩) fun _ _ _ _ _ z => z
end Q3

open PySem PySem.W PyProof.Rows
set_option maxRecDepth 100000 in
set_option maxHeartbeats 0 in
theorem PySem.Challenge.cw_calmwires_k62_one_move_holds : PySem.Challenge.rw_calmwires_k62_one_move.Holds := by
  w_on; o_law; k_head; (case hw => w_witness2)
  k_fill
  refine Q3.walk (l := PySem.Challenge.rw_calmwires_k62_one_move) rfl rfl (fun w h Y => PySem.W.kIn_of Y) ?F
  case F =>
    intro w mg fa h KX G hmg
    refine' Q3.all_mk KX G hmg ?aC ?ax0 ?ax1 ?ax2 ?ax3 ?ax4 ?ax5 ?ax6 ?ax7 ?ax8 ?a0 ?l0 ?c0 ?k0 ?a1 ?l1 ?c1 ?k1 ?a2 ?l2 ?c2 ?k2 ?a3 ?l3 ?c3 ?k3 ?a4 ?l4 ?c4 ?k4 ?a5 ?l5 ?c5 ?k5 ?a6 ?l6 ?c6 ?k6 ?a7 ?l7 ?c7 ?k7 ?a8 ?l8 ?c8 ?k8 ?a9 ?l9 ?c9 ?k9 ?a10 ?i10 ?l10 ?c10 ?k10 ?a11 ?i11 ?l11 ?c11 ?k11 ?a12 ?i12 ?l12 ?c12 ?k12 ?a13 ?i13 ?l13 ?c13 ?k13 ?a14 ?i14 ?l14 ?c14 ?k14 ?a15 ?i15 ?l15 ?c15 ?k15 ?a16 ?i16 ?l16 ?c16 ?k16 ?a17 ?l17 ?c17 ?k17 ?a18 ?l18 ?c18 ?k18 ?a19 ?l19 ?c19 ?k19 ?a20 ?l20 ?c20 ?k20 ?a21 ?l21 ?c21 ?k21 ?a22 ?l22 ?c22 ?k22 ?a23 ?l23 ?c23 ?k23 ?a24 ?l24 ?c24 ?k24 ?a25 ?l25 ?c25 ?k25 ?a26 ?l26 ?c26 ?k26 ?a27 ?l27 ?c27 ?k27 ?a28 ?l28 ?c28 ?k28 ?a29 ?l29 ?c29 ?k29 ?a30 ?l30 ?c30 ?k30 ?a31 ?l31 ?c31 ?k31 ?a32 ?l32 ?c32 ?k32 ?a33 ?l33 ?c33 ?k33 ?a34 ?l34 ?c34 ?k34 ?a35 ?l35 ?c35 ?k35 ?a36 ?l36 ?c36 ?k36 ?a37 ?l37 ?c37 ?k37 ?a38 ?l38 ?c38 ?k38 ?a39 ?l39 ?c39 ?k39 ?a40 ?l40 ?c40 ?k40 ?a41 ?l41 ?c41 ?k41 ?a42 ?l42 ?c42 ?k42 ?a43 ?l43 ?c43 ?k43 ?a44 ?l44 ?c44 ?k44 ?pg ?hd ?po ?sa ?mk ?kc ?n_graph ?n_net ?n_here ?n_levels ?xN ?kN ?bN ?tN ?sN ?eg ?ek ?ed ?ea ?en ?et ?em ?iC ?iV ?iA ?z_ValueError ?z_enumerate ?z_int ?z_isinstance ?z_len ?z_list ?z_max ?z_min ?z_range ?z_sorted ?z_sum ?z_tuple ?z_zip
    (case aC => k_is)
    (case ax0 => k_is)
    (case ax1 => k_is)
    (case ax2 => k_is)
    (case ax3 => k_is)
    (case ax4 => k_is)
    (case ax5 => k_is)
    (case ax6 => k_is)
    (case ax7 => k_is)
    (case ax8 => k_is)
    (case a0 => k_is)
    (case l0 => k_is)
    (case c0 => k_is)
    (case k0 => k_is)
    (case a1 => k_is)
    (case l1 => k_is)
    (case c1 => k_is)
    (case k1 => k_is)
    (case a2 => k_is)
    (case l2 => k_is)
    (case c2 => k_is)
    (case k2 => k_is)
    (case a3 => k_is)
    (case l3 => k_is)
    (case c3 => k_is)
    (case k3 => k_is)
    (case a4 => k_is)
    (case l4 => k_is)
    (case c4 => k_is)
    (case k4 => k_is)
    (case a5 => k_is)
    (case l5 => k_is)
    (case c5 => k_is)
    (case k5 => k_is)
    (case a6 => k_is)
    (case l6 => k_is)
    (case c6 => k_is)
    (case k6 => k_is)
    (case a7 => k_is)
    (case l7 => k_is)
    (case c7 => k_is)
    (case k7 => k_is)
    (case a8 => k_is)
    (case l8 => k_is)
    (case c8 => k_is)
    (case k8 => k_is)
    (case a9 => k_is)
    (case l9 => k_is)
    (case c9 => k_is)
    (case k9 => k_is)
    (case a10 => k_is)
    (case i10 => k_is)
    (case l10 => k_is)
    (case c10 => k_is)
    (case k10 => k_is)
    (case a11 => k_is)
    (case i11 => k_is)
    (case l11 => k_is)
    (case c11 => k_is)
    (case k11 => k_is)
    (case a12 => k_is)
    (case i12 => k_is)
    (case l12 => k_is)
    (case c12 => k_is)
    (case k12 => k_is)
    (case a13 => k_is)
    (case i13 => k_is)
    (case l13 => k_is)
    (case c13 => k_is)
    (case k13 => k_is)
    (case a14 => k_is)
    (case i14 => k_is)
    (case l14 => k_is)
    (case c14 => k_is)
    (case k14 => k_is)
    (case a15 => k_is)
    (case i15 => k_is)
    (case l15 => k_is)
    (case c15 => k_is)
    (case k15 => k_is)
    (case a16 => k_is)
    (case i16 => k_is)
    (case l16 => k_is)
    (case c16 => k_is)
    (case k16 => k_is)
    (case a17 => k_is)
    (case l17 => k_is)
    (case c17 => k_is)
    (case k17 => k_is)
    (case a18 => k_is)
    (case l18 => k_is)
    (case c18 => k_is)
    (case k18 => k_is)
    (case a19 => k_is)
    (case l19 => k_is)
    (case c19 => k_is)
    (case k19 => k_is)
    (case a20 => k_is)
    (case l20 => k_is)
    (case c20 => k_is)
    (case k20 => k_is)
    (case a21 => k_is)
    (case l21 => k_is)
    (case c21 => k_is)
    (case k21 => k_is)
    (case a22 => k_is)
    (case l22 => k_is)
    (case c22 => k_is)
    (case k22 => k_is)
    (case a23 => k_is)
    (case l23 => k_is)
    (case c23 => k_is)
    (case k23 => k_is)
    (case a24 => k_is)
    (case l24 => k_is)
    (case c24 => k_is)
    (case k24 => k_is)
    (case a25 => k_is)
    (case l25 => k_is)
    (case c25 => k_is)
    (case k25 => k_is)
    (case a26 => k_is)
    (case l26 => k_is)
    (case c26 => k_is)
    (case k26 => k_is)
    (case a27 => k_is)
    (case l27 => k_is)
    (case c27 => k_is)
    (case k27 => k_is)
    (case a28 => k_is)
    (case l28 => k_is)
    (case c28 => k_is)
    (case k28 => k_is)
    (case a29 => k_is)
    (case l29 => k_is)
    (case c29 => k_is)
    (case k29 => k_is)
    (case a30 => k_is)
    (case l30 => k_is)
    (case c30 => k_is)
    (case k30 => k_is)
    (case a31 => k_is)
    (case l31 => k_is)
    (case c31 => k_is)
    (case k31 => k_is)
    (case a32 => k_is)
    (case l32 => k_is)
    (case c32 => k_is)
    (case k32 => k_is)
    (case a33 => k_is)
    (case l33 => k_is)
    (case c33 => k_is)
    (case k33 => k_is)
    (case a34 => k_is)
    (case l34 => k_is)
    (case c34 => k_is)
    (case k34 => k_is)
    (case a35 => k_is)
    (case l35 => k_is)
    (case c35 => k_is)
    (case k35 => k_is)
    (case a36 => k_is)
    (case l36 => k_is)
    (case c36 => k_is)
    (case k36 => k_is)
    (case a37 => k_is)
    (case l37 => k_is)
    (case c37 => k_is)
    (case k37 => k_is)
    (case a38 => k_is)
    (case l38 => k_is)
    (case c38 => k_is)
    (case k38 => k_is)
    (case a39 => k_is)
    (case l39 => k_is)
    (case c39 => k_is)
    (case k39 => k_is)
    (case a40 => k_is)
    (case l40 => k_is)
    (case c40 => k_is)
    (case k40 => k_is)
    (case a41 => k_is)
    (case l41 => k_is)
    (case c41 => k_is)
    (case k41 => k_is)
    (case a42 => k_is)
    (case l42 => k_is)
    (case c42 => k_is)
    (case k42 => k_is)
    (case a43 => k_is)
    (case l43 => k_is)
    (case c43 => k_is)
    (case k43 => k_is)
    (case a44 => k_is)
    (case l44 => k_is)
    (case c44 => k_is)
    (case k44 => k_is)
    (case pg => k_is)
    (case hd => k_is)
    (case po => k_is)
    (case sa => k_is)
    (case mk => k_is)
    (case kc => k_is)
    (case n_graph => k_is)
    (case n_net => k_is)
    (case n_here => k_is)
    (case n_levels => k_is)
    (case xN => k_exc)
    (case kN => k_is)
    (case bN => k_is)
    (case tN => k_is)
    (case sN => k_is)
    (case eg => k_is)
    (case ek => k_is)
    (case ed => k_is)
    (case ea => k_is)
    (case en => k_is)
    (case et => k_is)
    (case em => k_is)
    (case iC => kit_is)
    (case iV => kit_is)
    (case iA => kit_is)
    (case z_ValueError => k_is)
    (case z_enumerate => k_is)
    (case z_int => k_is)
    (case z_isinstance => k_is)
    (case z_len => k_is)
    (case z_list => k_is)
    (case z_max => k_is)
    (case z_min => k_is)
    (case z_range => k_is)
    (case z_sorted => k_is)
    (case z_sum => k_is)
    (case z_tuple => k_is)
    (case z_zip => k_is)
