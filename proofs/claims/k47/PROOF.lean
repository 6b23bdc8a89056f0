import PyProof.Rows.All
import Wide.All
import OpenK.AllK
import Wide.FinOn
import HandS.ForMost
import HandS.Evl
import HandS.TupAny
import HandS.IsInst
import HandS.Zip
import HandS.Deep
import HandS.Codes
import HandS.CallLocal
import HandS.TupSets
import HandS.Conv
import HandS.Style
import HandS.IterVal
import HandS.DictTup
import KE.DataMinMax
import KE.KDictZip
import KE.KRevSl
import KE.GoesEnum
import PySem.Challenge.RW_lowerboards_k47_whole_layings_beyond_by
import HandS.Defaults
import HandS.Sort
import HandS.Iter
import KE.KDictDisplayH
set_option Elab.async false
set_option linter.all false
set_option maxRecDepth 100000
set_option maxHeartbeats 8000000
/-! Kd, part A: data that values stand for, states told by slots of data, what an expression gives, what a block reaches. -/
namespace Kd
open PySem PySem.Spec PyProof.Rows L2 Evl

/-! ### data -/
def kD : Key → PyData
  | .inl i => .int i
  | .inr x => .str x
def kT (k : List Key) : PyData := .tuple (k.map kD)
/-- a tuple that is known to be new, told apart from others (no dict of the program looks so) -/
def trk (ds : List PyData) : PyData := .dict [(.none, .tuple ds)]
mutual
/-- the value v stands for the data d, by what H tells -/
inductive Rp (K : PySem.W.Frag) (H : Hp) : V → PyData → Prop
  | non : Rp K H .non .none
  | bl (b : Bool) : Rp K H (.bl b) (.bool b)
  | int (i : Int) : Rp K H (.int i) (.int i)
  | str (x : Str) : Rp K H (.str x) (.str x)
  | lst {a : Addr} {xs : List V} {ds : List PyData} : H a = some (.lst xs) → RpAll K H xs ds → Rp K H (.ref a) (.list ds)
  | tup {a : Addr} {xs : List V} {ds : List PyData} : SqT K H a xs → RpAll K H xs ds → Rp K H (.ref a) (.tuple ds)
  | dK0 {a : Addr} : H a = some (.dK []) → Rp K H (.ref a) (.dict [])
  | tkt {a : Addr} {xs : List V} {ds : List PyData} : H a = some (.tup xs) → RpAll K H xs ds → Rp K H (.ref a) (.dict [(.none, .tuple ds)])
  | dT {a : Addr} {ks : List (List Key)} {xs : List V} {ds : List PyData} : ks.length = xs.length → H a = some (.dT (ks.zip xs)) → RpAll K H xs ds → Rp K H (.ref a) (.dict ((ks.map kT).zip ds))
inductive RpAll (K : PySem.W.Frag) (H : Hp) : List V → List PyData → Prop
  | nil : RpAll K H [] []
  | cons {v : V} {vs : List V} {d : PyData} {ds : List PyData} : Rp K H v d → RpAll K H vs ds → RpAll K H (v :: vs) (d :: ds)
end
section
variable {K : PySem.W.Frag} {H H' : Hp}
mutual
theorem Rp.mono (e : Ex H H') : ∀ {v : V} {d : PyData}, Rp K H v d → Rp K H' v d
  | _, _, .non => .non
  | _, _, .bl b => .bl b
  | _, _, .int i => .int i
  | _, _, .str x => .str x
  | _, _, .lst h t => .lst (e _ _ h) (RpAll.mono e t)
  | _, _, .tup h t => .tup (ex_t e h) (RpAll.mono e t)
  | _, _, .dK0 h => .dK0 (e _ _ h)
  | _, _, .tkt h t => .tkt (e _ _ h) (RpAll.mono e t)
  | _, _, .dT l h t => .dT l (e _ _ h) (RpAll.mono e t)
theorem RpAll.mono (e : Ex H H') : ∀ {vs : List V} {ds : List PyData}, RpAll K H vs ds → RpAll K H' vs ds
  | _, _, .nil => .nil
  | _, _, .cons h t => .cons (Rp.mono e h) (RpAll.mono e t)
end
theorem Rp.untrk {v : V} {ds : List PyData} (h : Rp K H v (trk ds)) : Rp K H v (.tuple ds) := by
  have go : ∀ {d : PyData}, Rp K H v d → d = trk ds → Rp K H v (.tuple ds) := fun {d} r e => by
    cases r with
    | tkt ha t => cases e; exact .tup (.inl (.inl ha)) t
    | @dT a ks xs es hl h t =>
      exfalso
      unfold trk at e
      injection e with e
      cases ks with
      | nil => exact nomatch e
      | cons k ks =>
        cases es with
        | nil => exact nomatch e
        | cons d ds =>
          rw [List.map_cons, List.zip_cons_cons] at e
          injection e with e _
          injection e with e _
          exact nomatch e
    | _ => exact nomatch e
  exact go h rfl
theorem Rp.trk_at {v : V} {ds : List PyData} (h : Rp K H v (trk ds)) : ∃ a xs, v = .ref a ∧ H a = some (.tup xs) ∧ RpAll K H xs ds := by
  have go : ∀ {d : PyData}, Rp K H v d → d = trk ds → ∃ a xs, v = .ref a ∧ H a = some (.tup xs) ∧ RpAll K H xs ds := fun {d} r e => by
    cases r with
    | tkt ha t => cases e; exact ⟨_, _, rfl, ha, t⟩
    | @dT a ks xs es hl h t =>
      exfalso
      unfold trk at e
      injection e with e
      cases ks with
      | nil => exact nomatch e
      | cons k ks =>
        cases es with
        | nil => exact nomatch e
        | cons d ds =>
          rw [List.map_cons, List.zip_cons_cons] at e
          injection e with e _
          injection e with e _
          exact nomatch e
    | _ => exact nomatch e
  exact go h rfl
theorem RpAll.len : ∀ {vs : List V} {ds : List PyData}, RpAll K H vs ds → vs.length = ds.length
  | _, _, .nil => rfl
  | _, _, .cons _ t => congrArg (· + 1) t.len
theorem RpAll.get : ∀ {vs : List V} {ds : List PyData} {i : Nat} {d : PyData}, RpAll K H vs ds → ds[i]? = some d → ∃ v, vs[i]? = some v ∧ Rp K H v d
  | _, _, 0, _, .cons h _, e => ⟨_, rfl, by cases Option.some.inj e; exact h⟩
  | _, _, i + 1, _, .cons _ t, e => t.get (i := i) e
theorem RpAll.get' : ∀ {vs : List V} {ds : List PyData} {i : Nat} {v : V}, RpAll K H vs ds → vs[i]? = some v → ∃ d, ds[i]? = some d ∧ Rp K H v d
  | _, _, 0, _, .cons h _, e => ⟨_, rfl, by cases Option.some.inj e; exact h⟩
  | _, _, i + 1, _, .cons _ t, e => t.get' (i := i) e
theorem RpAll.app : ∀ {vs ws : List V} {ds es : List PyData}, RpAll K H vs ds → RpAll K H ws es → RpAll K H (vs ++ ws) (ds ++ es)
  | _, _, _, _, .nil, h => h
  | _, _, _, _, .cons h t, k => .cons h (t.app k)
theorem RpAll.one {v : V} {d : PyData} (h : Rp K H v d) : RpAll K H [v] [d] := .cons h .nil
theorem RpAll.take : ∀ {vs : List V} {ds : List PyData} (n : Nat), RpAll K H vs ds → RpAll K H (vs.take n) (ds.take n)
  | _, _, 0, _ => .nil
  | _, _, _ + 1, .nil => .nil
  | _, _, n + 1, .cons h t => .cons h (t.take n)
theorem RpAll.drop : ∀ {vs : List V} {ds : List PyData} (n : Nat), RpAll K H vs ds → RpAll K H (vs.drop n) (ds.drop n)
  | _, _, 0, h => h
  | _, _, _ + 1, .nil => .nil
  | _, _, n + 1, .cons _ t => t.drop n
theorem RpAll.set {v : V} {d : PyData} (h : Rp K H v d) : ∀ {vs : List V} {ds : List PyData} (n : Nat), RpAll K H vs ds → RpAll K H (vs.set n v) (ds.set n d)
  | _, _, _, .nil => .nil
  | _, _, 0, .cons _ t => .cons h t
  | _, _, n + 1, .cons q t => .cons q (t.set h n)
theorem RpAll.erase : ∀ {vs : List V} {ds : List PyData} (n : Nat), RpAll K H vs ds → RpAll K H (vs.eraseIdx n) (ds.eraseIdx n)
  | _, _, _, .nil => .nil
  | _, _, 0, .cons _ t => t
  | _, _, n + 1, .cons q t => .cons q (t.erase n)
theorem RpAll.rev : ∀ {vs : List V} {ds : List PyData}, RpAll K H vs ds → RpAll K H vs.reverse ds.reverse
  | _, _, .nil => .nil
  | _, _, .cons h t => by
    rw [List.reverse_cons, List.reverse_cons]
    exact t.rev.app (.one h)
theorem RpAll.ints : ∀ {vs : List V} {ns : List Int}, RpAll K H vs (ns.map PyData.int) → vs = ns.map V.int
  | _, [], .nil => rfl
  | _, _ :: _, .cons (.int _) t => by rw [List.map_cons, ← t.ints]
theorem RpAll.ofInts : ∀ (ns : List Int), RpAll K H (ns.map V.int) (ns.map PyData.int)
  | [] => .nil
  | n :: ns => .cons (.int n) (RpAll.ofInts ns)
theorem RpAll.bools : ∀ {vs : List V} {bs : List Bool}, RpAll K H vs (bs.map PyData.bool) → vs = bs.map V.bl
  | _, [], .nil => rfl
  | _, _ :: _, .cons (.bl _) t => by rw [List.map_cons, ← t.bools]
mutual
theorem Rp.dp : ∀ {d : PyData} {v : V}, d.canLay0 = true → Rp K H v d → Dp K H v d
  | .none, _, _, .non => .non
  | .bool b, _, _, .bl _ => .bl b
  | .int i, _, _, .int _ => .int i
  | .str x, _, _, .str _ => .str x
  | .list ds, _, c, .lst h t => .lst (.inl (.inl h)) (RpAll.dp (ds := ds) (by simpa [PyData.canLay0] using c) t)
  | .tuple ds, _, c, .tup h t => .tup h (RpAll.dp (ds := ds) (by simpa [PyData.canLay0] using c) t)
  | .dict _, _, c, _ => by simp [PyData.canLay0] at c
theorem RpAll.dp : ∀ {ds : List PyData} {vs : List V}, PyData.canLayAll0 ds = true → RpAll K H vs ds → DpAll K H vs ds
  | [], _, _, .nil => .nil
  | d :: ds, _, c, .cons h t => by
    simp only [PyData.canLayAll0, Bool.and_eq_true] at c
    exact .cons (Rp.dp c.1 h) (RpAll.dp c.2 t)
end
end

/-! ### how heaps go on: G what is known to stay, H all; m the one pot -/
/-- the pot of draws: two whole numbers -/
def PotAt (H : Hp) (p : Addr) : Prop := ∃ a b : Int, 0 ≤ a ∧ 0 ≤ b ∧ b ≤ 2147483563 ∧ H p = some (.lst [.int a, .int b])
def notTup : Option HO → Bool
  | some (.tup _) => false
  | none => false
  | _ => true
structure Xt (m : Option Addr) (G H G2 H2 : Hp) : Prop where
  gg : Ex G G2
  hh : ∀ a o, m ≠ some a → H a = some o → H2 a = some o
  gh : Ex G2 H2
  fr : ∀ a, G a = none → notTup (H a) = true → G2 a = none
  nn : ∀ a, H a ≠ none → H2 a ≠ none
  pt : ∀ p, m = some p → PotAt H p → PotAt H2 p
  nt : ∀ a, notTup (H a) = true → notTup (H2 a) = true
theorem Xt.refl {m : Option Addr} {G H : Hp} (e : Ex G H) : Xt m G H G H := ⟨Ex.refl G, fun _ _ _ h => h, e, fun _ h _ => h, fun _ h => h, fun _ _ h => h, fun _ h => h⟩
theorem Xt.trans {m : Option Addr} {G H G1 H1 G2 H2 : Hp} (a : Xt m G H G1 H1) (b : Xt m G1 H1 G2 H2) : Xt m G H G2 H2 :=
  ⟨a.gg.trans b.gg, fun x o n h => b.hh x o n (a.hh x o n h), b.gh, fun x h k => b.fr x (a.fr x h k) (a.nt x k), fun x h => b.nn x (a.nn x h), fun p e h => b.pt p e (a.pt p e h), fun x h => b.nt x (a.nt x h)⟩
/-- what leaves all as it was, for any pot -/
theorem Xt.any {m : Option Addr} {G H G2 H2 : Hp} (a : Xt none G H G2 H2) : Xt m G H G2 H2 := by
  have hh : ∀ x o, H x = some o → H2 x = some o := fun x o h => a.hh x o (fun z => nomatch z) h
  exact ⟨a.gg, fun x o _ h => hh x o h, a.gh, a.fr, a.nn, (fun p _ ⟨i, j, h1, h2, h3, h⟩ => ⟨i, j, h1, h2, h3, hh p _ h⟩), a.nt⟩
theorem Xt.new {m : Option Addr} {G H : Hp} {p : Addr} {o : HO} (e : Ex G H) (h : H p = none) : Xt m G H (upd G p o) (upd H p o) := by
  have gp : G p = none := fresh_back e h
  have hh : ∀ x u, H x = some u → upd H p o x = some u := fun x u q => Ex.new h x u q
  refine ⟨Ex.new gp, fun x u _ q => hh x u q, fun x u q => ?_, fun x g q => ?_, fun x q => ?_, (fun q _ ⟨i, j, h1, h2, h3, k⟩ => ⟨i, j, h1, h2, h3, hh q _ k⟩), fun x q => ?_⟩
  · by_cases z : x = p
    · subst z
      rw [upd_same] at q ⊢
      exact q
    · rw [upd_ne z] at q ⊢
      exact e x u q
  · have z : x ≠ p := fun z => by rw [z, h] at q; exact nomatch q
    rw [upd_ne z]
    exact g
  · have z : x ≠ p := fun z => q (by rw [z]; exact h)
    rw [upd_ne z]
    exact q
  · have z : x ≠ p := fun z => by rw [z, h] at q; exact nomatch q
    rw [upd_ne z]
    exact q
/-- .. a new object of which nothing is to be known -/
theorem Xt.new0 {m : Option Addr} {G H : Hp} {p : Addr} {o : HO} (e : Ex G H) (h : H p = none) : Xt m G H G (upd H p o) := by
  have hh : ∀ x u, H x = some u → upd H p o x = some u := fun x u q => Ex.new h x u q
  refine ⟨Ex.refl G, fun x u _ q => hh x u q, fun x u q => hh x u (e x u q), fun x g _ => g, fun x q => ?_, (fun q _ ⟨i, j, h1, h2, h3, k⟩ => ⟨i, j, h1, h2, h3, hh q _ k⟩), fun x q => ?_⟩
  · have z : x ≠ p := fun z => q (by rw [z]; exact h)
    rw [upd_ne z]
    exact q
  · have z : x ≠ p := fun z => by rw [z, h] at q; exact nomatch q
    rw [upd_ne z]
    exact q

/-! ### states by slots -/
/-- what is said of a slot: nothing; it stands for data; a list, a dict of our own that may change; the pot; just this value -/
inductive Sl where
  | no | dat (d : PyData) | own (ds : List PyData) | ownD (ks : List (List Key)) (ds : List PyData) | pot | val (v : V)
def SlOk (K : PySem.W.Frag) (m : Option Addr) (H0 G H : Hp) (o : Option V) : Sl → Prop
  | .no => True
  | .dat d => ∃ v, o = some v ∧ Rp K G v d
  | .own ds => ∃ p xs, o = some (.ref p) ∧ G p = none ∧ H0 p = none ∧ H p = some (.lst xs) ∧ RpAll K G xs ds
  | .ownD ks ds => ∃ p xs, o = some (.ref p) ∧ G p = none ∧ H0 p = none ∧ ks.length = xs.length ∧ H p = some (.dT (ks.zip xs)) ∧ RpAll K G xs ds
  | .pot => ∃ p, o = some (.ref p) ∧ m = some p
  | .val v => o = some v
def Sl.owns : Sl → Bool
  | .own _ => true
  | .ownD _ _ => true
  | _ => false
abbrev Rho := List Sl
structure Sta (K : PySem.W.Frag) (m : Option Addr) (G0 H0 G : Hp) (σ : L2.St) (H : Hp) (ρ : Rho) : Prop where
  xt : Xt m G0 H0 G H
  pt : ∀ p, m = some p → G p = none ∧ H0 p ≠ none ∧ PotAt H p
  len : σ.length = ρ.length
  sl : ∀ (i : Nat) (s : Sl), ρ[i]? = some s → SlOk K m H0 G H (σ[i]?.join) s
  ap : ∀ (i j : Nat) (s t : Sl) (p : Addr), ρ[i]? = some s → ρ[j]? = some t → s.owns = true → t.owns = true → σ[i]? = some (some (.ref p)) → σ[j]? = some (some (.ref p)) → i = j
section
variable {K : PySem.W.Frag} {m : Option Addr} {G0 H0 G H G2 H2 : Hp} {σ : L2.St} {ρ : Rho}
theorem join_some {α : Type} {o : Option (Option α)} {a : α} (h : o.join = some a) : o = some (some a) := by
  cases o with
  | none => cases h
  | some o => cases o with
    | none => cases h
    | some b => cases h; rfl
theorem Sta.step (S : Sta K m G0 H0 G σ H ρ) (x : Xt m G H G2 H2) : Sta K m G0 H0 G2 σ H2 ρ := by
  refine ⟨S.xt.trans x, fun p e => ?_, S.len, fun i s e => ?_, S.ap⟩
  · obtain ⟨h1, h2, h3⟩ := S.pt p e
    have hp : notTup (H p) = true := by
      obtain ⟨_, _, _, _, _, h⟩ := h3
      rw [h]
      rfl
    exact ⟨x.fr p h1 hp, h2, x.pt p e h3⟩
  · have q := S.sl i s e
    cases s with
    | no => trivial
    | dat d =>
      obtain ⟨v, h1, h2⟩ := q
      exact ⟨v, h1, h2.mono x.gg⟩
    | own ds =>
      obtain ⟨p, xs, h1, h2, h3, h4, h5⟩ := q
      have nm : m ≠ some p := fun z => (S.pt p z).2.1 h3
      exact ⟨p, xs, h1, x.fr p h2 (by rw [h4]; rfl), h3, x.hh p _ nm h4, h5.mono x.gg⟩
    | ownD ks ds =>
      obtain ⟨p, xs, h1, h2, h3, hl, h4, h5⟩ := q
      have nm : m ≠ some p := fun z => (S.pt p z).2.1 h3
      exact ⟨p, xs, h1, x.fr p h2 (by rw [h4]; rfl), h3, hl, x.hh p _ nm h4, h5.mono x.gg⟩
    | pot => exact q
    | val v => exact q
/-- counted from now on -/
theorem Sta.now (S : Sta K m G0 H0 G σ H ρ) : Sta K m G H0 G σ H ρ :=
  ⟨⟨Ex.refl G, S.xt.hh, S.xt.gh, fun _ h _ => h, S.xt.nn, S.xt.pt, S.xt.nt⟩, S.pt, S.len, S.sl, S.ap⟩
theorem Sta.back {G' H' : Hp} (S : Sta K m G0 H0 G σ H ρ) (x : Xt m G H0 G' H') : Xt m G0 H0 G' H' :=
  ⟨S.xt.gg.trans x.gg, x.hh, x.gh, fun a h k => x.fr a (S.xt.fr a h k) k, x.nn, x.pt, x.nt⟩
theorem Sta.then {G' H' : Hp} {σ' : L2.St} {ρ' : Rho} (S : Sta K m G0 H0 G σ H ρ) (S' : Sta K m G H0 G' σ' H' ρ') : Sta K m G0 H0 G' σ' H' ρ' :=
  ⟨S.back S'.xt, S'.pt, S'.len, S'.sl, S'.ap⟩
theorem set_get {α : Type} {l : List α} {i j : Nat} {a b : α} (h : (l.set i a)[j]? = some b) : (i = j ∧ a = b) ∨ (i ≠ j ∧ l[j]? = some b) := by
  by_cases e : i = j
  · subst e
    left
    have hl : i < l.length := by
      have := (List.getElem?_eq_some_iff.mp h).1
      simpa using this
    rw [List.getElem?_set_self hl] at h
    exact ⟨rfl, Option.some.inj h⟩
  · right
    rw [List.getElem?_set_ne e] at h
    exact ⟨e, h⟩
/-- a slot is stored: nothing of it is owned, or what it owns is new -/
theorem Sta.set (S : Sta K m G0 H0 G σ H ρ) {i : Nat} {v : V} {s : Sl} (hs : SlOk K m H0 G H (some v) s)
    (hn : s.owns = true → ∀ (j : Nat) (t : Sl), ρ[j]? = some t → t.owns = true → σ[j]? ≠ some (some v)) : Sta K m G0 H0 G (σ.set i (some v)) H (ρ.set i s) := by
  refine ⟨S.xt, S.pt, by rw [List.length_set, List.length_set]; exact S.len, fun j t e => ?_, fun j k t u p e1 e2 o1 o2 q1 q2 => ?_⟩
  · rcases set_get e with ⟨rfl, rfl⟩ | ⟨ne, e⟩
    · have hl : i < σ.length := by
        have := (List.getElem?_eq_some_iff.mp e).1
        rw [S.len]
        simpa using this
      rw [List.getElem?_set_self hl]
      exact hs
    · rw [List.getElem?_set_ne ne]
      exact S.sl j t e
  · rcases set_get e1 with ⟨rfl, rfl⟩ | ⟨n1, e1⟩
    · rcases set_get e2 with ⟨rfl, rfl⟩ | ⟨n2, e2⟩
      · rfl
      · exfalso
        have hl : i < σ.length := by
          have := (List.getElem?_eq_some_iff.mp q1).1
          simpa using this
        rw [List.getElem?_set_self hl] at q1
        rw [List.getElem?_set_ne n2] at q2
        have ev : v = .ref p := Option.some.inj (Option.some.inj q1)
        exact hn o1 k u e2 o2 (by rw [ev]; exact q2)
    · rcases set_get e2 with ⟨rfl, rfl⟩ | ⟨n2, e2⟩
      · exfalso
        have hl : i < σ.length := by
          have := (List.getElem?_eq_some_iff.mp q2).1
          simpa using this
        rw [List.getElem?_set_self hl] at q2
        rw [List.getElem?_set_ne n1] at q1
        have ev : v = .ref p := Option.some.inj (Option.some.inj q2)
        exact hn o2 j t e1 o1 (by rw [ev]; exact q1)
      · rw [List.getElem?_set_ne n1] at q1
        rw [List.getElem?_set_ne n2] at q2
        exact S.ap j k t u p e1 e2 o1 o2 q1 q2
theorem Sta.setD (S : Sta K m G0 H0 G σ H ρ) (i : Nat) {v : V} {d : PyData} (h : Rp K G v d) : Sta K m G0 H0 G (σ.set i (some v)) H (ρ.set i (.dat d)) :=
  S.set ⟨v, rfl, h⟩ fun z => nomatch z
/-- a slot is forgotten -/
theorem Sta.forget (S : Sta K m G0 H0 G σ H ρ) (i : Nat) : Sta K m G0 H0 G (σ.set i none) H (ρ.set i .no) := by
  refine ⟨S.xt, S.pt, by rw [List.length_set, List.length_set]; exact S.len, fun j t e => ?_, fun j k t u p e1 e2 o1 o2 q1 q2 => ?_⟩
  · rcases set_get e with ⟨rfl, rfl⟩ | ⟨ne, e⟩
    · trivial
    · rw [List.getElem?_set_ne ne]
      exact S.sl j t e
  · rcases set_get e1 with ⟨rfl, rfl⟩ | ⟨n1, e1⟩
    · exact nomatch o1
    · rcases set_get e2 with ⟨rfl, rfl⟩ | ⟨n2, e2⟩
      · exact nomatch o2
      · rw [List.getElem?_set_ne n1] at q1
        rw [List.getElem?_set_ne n2] at q2
        exact S.ap j k t u p e1 e2 o1 o2 q1 q2
def wipeR (ρ : Rho) : List Nat → Rho
  | [] => ρ
  | v :: vs => (wipeR ρ vs).set v .no
theorem Sta.wiped (S : Sta K m G0 H0 G σ H ρ) : ∀ vs : List Nat, Sta K m G0 H0 G (wipe σ vs) H (wipeR ρ vs)
  | [] => S
  | v :: vs => (S.wiped vs).forget v
/-- the heap changes at an address that our list at i has -/
theorem Sta.mut (S : Sta K m G0 H0 G σ H ρ) {i : Nat} {s : Sl} {p : Addr} {o : HO} (hi : ρ[i]? = some s) (ow : s.owns = true) (hv : σ[i]? = some (some (.ref p))) (gp : G p = none) (hp0 : H0 p = none) (hp : H p ≠ none) {t : Sl}
    (ht : SlOk K m H0 G (upd H p o) (some (.ref p)) t) : Sta K m G0 H0 G σ (upd H p o) (ρ.set i t) := by
  have nm : m ≠ some p := fun z => (S.pt p z).2.1 hp0
  refine ⟨⟨S.xt.gg, fun a u n e => ?_, fun a u e => ?_, S.xt.fr, fun a e => ?_, fun q e h => ?_, fun a e => ?_⟩, fun q e => ?_, by rw [List.length_set]; exact S.len, fun j u e => ?_, fun j k u w q e1 e2 o1 o2 q1 q2 => ?_⟩
  · have z : a ≠ p := fun z => by rw [z, hp0] at e; cases e
    rw [upd_ne z]
    exact S.xt.hh a u n e
  · have z : a ≠ p := fun z => by rw [z, gp] at e; cases e
    rw [upd_ne z]
    exact S.xt.gh a u e
  · have z : a ≠ p := fun z => e (by rw [z]; exact hp0)
    rw [upd_ne z]
    exact S.xt.nn a e
  · have z : q ≠ p := fun z => nm (by rw [← z]; exact e)
    obtain ⟨i, j, h1, h2, h3, hh⟩ := (S.pt q e).2.2
    exact ⟨i, j, h1, h2, h3, by rw [upd_ne z]; exact hh⟩
  · have z : a ≠ p := fun z => by rw [z, hp0] at e; exact nomatch e
    rw [upd_ne z]
    exact S.xt.nt a e
  · obtain ⟨k1, k2, i, j, h1, h2, h3, hh⟩ := S.pt q e
    have z : q ≠ p := fun z => nm (by rw [← z]; exact e)
    exact ⟨k1, k2, i, j, h1, h2, h3, by rw [upd_ne z]; exact hh⟩
  · rcases set_get e with ⟨rfl, rfl⟩ | ⟨ne, e⟩
    · rw [hv]
      exact ht
    · have q := S.sl j u e
      have apart : ∀ p', u.owns = true → σ[j]? = some (some (.ref p')) → p' ≠ p := fun p' ou hj z => ne (S.ap i j s u p hi e ow ou hv (by rw [← z]; exact hj))
      cases u with
      | no => trivial
      | dat d => exact q
      | own ds =>
        obtain ⟨p', xs, h1, h2, h3, h4, h5⟩ := q
        exact ⟨p', xs, h1, h2, h3, by rw [upd_ne (apart p' rfl (join_some h1))]; exact h4, h5⟩
      | ownD ks ds =>
        obtain ⟨p', xs, h1, h2, h3, hl, h4, h5⟩ := q
        exact ⟨p', xs, h1, h2, h3, hl, by rw [upd_ne (apart p' rfl (join_some h1))]; exact h4, h5⟩
      | pot => exact q
      | val v => exact q
  · rcases set_get e1 with ⟨rfl, rfl⟩ | ⟨n1, e1⟩
    · rcases set_get e2 with ⟨rfl, rfl⟩ | ⟨n2, e2⟩
      · rfl
      · exact S.ap i k s w q hi e2 ow o2 q1 q2
    · rcases set_get e2 with ⟨rfl, rfl⟩ | ⟨n2, e2⟩
      · exact S.ap j i u s q e1 hi o1 ow q1 q2
      · exact S.ap j k u w q e1 e2 o1 o2 q1 q2
/-- our list at i is not changed any more: it is data -/
theorem Sta.freeze (S : Sta K m G0 H0 G σ H ρ) {i : Nat} {ds : List PyData} (hi : ρ[i]? = some (.own ds)) :
    ∃ p xs, σ[i]? = some (some (.ref p)) ∧ G p = none ∧ H0 p = none ∧ H p = some (.lst xs) ∧ Sta K m G0 H0 (upd G p (.lst xs)) σ H (ρ.set i (.dat (.list ds))) := by
  obtain ⟨p, xs, h1, h2, h3, h4, h5⟩ := S.sl i _ hi
  have hv := join_some h1
  have eG : Ex G (upd G p (.lst xs)) := Ex.new h2
  refine ⟨p, xs, hv, h2, h3, h4, ⟨S.xt.gg.trans eG, S.xt.hh, fun a u e => ?_, fun a g k => ?_, S.xt.nn, S.xt.pt, S.xt.nt⟩, fun q e => ?_, by rw [List.length_set]; exact S.len, fun j u e => ?_, fun j k u w q e1 e2 o1 o2 q1 q2 => ?_⟩
  · by_cases z : a = p
    · subst z
      rw [upd_same] at e
      rw [h4]
      exact e
    · rw [upd_ne z] at e
      exact S.xt.gh a u e
  · have z : a ≠ p := fun z => by rw [z, h3] at k; exact nomatch k
    rw [upd_ne z]
    exact S.xt.fr a g k
  · obtain ⟨k1, k2, k3⟩ := S.pt q e
    have z : q ≠ p := fun z => k2 (by rw [z]; exact h3)
    exact ⟨by rw [upd_ne z]; exact k1, k2, k3⟩
  · rcases set_get e with ⟨rfl, rfl⟩ | ⟨ne, e⟩
    · exact ⟨.ref p, h1, .lst upd_same (h5.mono eG)⟩
    · have q := S.sl j u e
      have apart : ∀ p', u.owns = true → σ[j]? = some (some (.ref p')) → p' ≠ p := fun p' ou hj z => ne (S.ap i j _ u p hi e rfl ou hv (by rw [← z]; exact hj))
      cases u with
      | no => trivial
      | dat d =>
        obtain ⟨v, k1, k2⟩ := q
        exact ⟨v, k1, k2.mono eG⟩
      | own ds =>
        obtain ⟨p', xs, k1, k2, k3, k4, k5⟩ := q
        exact ⟨p', xs, k1, by rw [upd_ne (apart p' rfl (join_some k1))]; exact k2, k3, k4, k5.mono eG⟩
      | ownD ks ds =>
        obtain ⟨p', xs, k1, k2, k3, hl, k4, k5⟩ := q
        exact ⟨p', xs, k1, by rw [upd_ne (apart p' rfl (join_some k1))]; exact k2, k3, hl, k4, k5.mono eG⟩
      | pot => exact q
      | val v => exact q
  · rcases set_get e1 with ⟨rfl, rfl⟩ | ⟨n1, e1⟩
    · exact nomatch o1
    · rcases set_get e2 with ⟨rfl, rfl⟩ | ⟨n2, e2⟩
      · exact nomatch o2
      · exact S.ap j k u w q e1 e2 o1 o2 q1 q2
end
end Kd

/-! Kd, part B: the judgements and the general rules. -/
namespace Kd
open PySem PySem.Spec PyProof.Rows L2 Evl

section
variable (K : PySem.W.Frag)
/-- the expression gives the data d -/
def EX (te : TE) (ρ : Rho) (d : PyData) : Prop := ∀ m G0 H0 G σ H, Sta K m G0 H0 G σ H ρ → ∀ Q : VK, (∀ v G2 H2, Xt m G H G2 H2 → Rp K G2 v d → Q v H2) → te σ H Q
/-- .. some data of which P holds -/
def ED (te : TE) (ρ : Rho) (P : PyData → Prop) : Prop := ∀ m G0 H0 G σ H, Sta K m G0 H0 G σ H ρ → ∀ Q : VK, (∀ v d G2 H2, Xt m G H G2 H2 → Rp K G2 v d → P d → Q v H2) → te σ H Q
/-- .. a new list -/
def EL (te : TE) (ρ : Rho) (ds : List PyData) : Prop := ∀ m G0 H0 G σ H, Sta K m G0 H0 G σ H ρ → ∀ Q : VK,
  (∀ p xs G2 H2, Xt m G H G2 H2 → H p = none → G2 p = none → H2 p = some (.lst xs) → RpAll K G2 xs ds → Q (.ref p) H2) → te σ H Q
/-- .. what a slot may hold -/
def ES (te : TE) (ρ : Rho) (s : Sl) : Prop := ∀ m G0 H0 G σ H, Sta K m G0 H0 G σ H ρ → ∀ Q : VK, (∀ v G2 H2, Xt m G H G2 H2 → SlOk K m H G2 H2 (some v) s → Q v H2) → te σ H Q
/-- the test answers b; .. some b of which P holds -/
def ET (tt : TT) (ρ : Rho) (b : Bool) : Prop := ∀ m G0 H0 G σ H, Sta K m G0 H0 G σ H ρ → ∀ Q : Bool → Hp → Prop, (∀ G2 H2, Xt m G H G2 H2 → Q b H2) → tt σ H Q
def ETP (tt : TT) (ρ : Rho) (P : Bool → Prop) : Prop := ∀ m G0 H0 G σ H, Sta K m G0 H0 G σ H ρ → ∀ Q : Bool → Hp → Prop, (∀ b G2 H2, Xt m G H G2 H2 → P b → Q b H2) → tt σ H Q
/-- arguments: what each may be passed as -/
def ArgOk (m : Option Addr) (G : Hp) (v : V) : Sl → Prop
  | .dat d => Rp K G v d
  | .pot => ∃ p, v = .ref p ∧ m = some p
  | .val u => v = u
  | _ => False
inductive ArgsOk (m : Option Addr) (G : Hp) : List V → List Sl → Prop
  | nil : ArgsOk m G [] []
  | cons {v : V} {vs : List V} {s : Sl} {ss : List Sl} : ArgOk K m G v s → ArgsOk m G vs ss → ArgsOk m G (v :: vs) (s :: ss)
def EA (ta : TA) (ρ : Rho) (P : List Sl → Prop) : Prop := ∀ m G0 H0 G σ H, Sta K m G0 H0 G σ H ρ → ∀ Q : List V → Hp → Prop, (∀ vs ss G2 H2, Xt m G H G2 H2 → ArgsOk K m G2 vs ss → P ss → Q vs H2) → ta σ H Q
/-- .. all data -/
def EAX (ta : TA) (ρ : Rho) (ds : List PyData) : Prop := ∀ m G0 H0 G σ H, Sta K m G0 H0 G σ H ρ → ∀ Q : List V → Hp → Prop, (∀ vs G2 H2, Xt m G H G2 H2 → RpAll K G2 vs ds → Q vs H2) → ta σ H Q
/-- what is walked -/
def Walks (m : Option Addr) (J : It) (G : Hp) (ds : List PyData) : Prop := ∀ G' H', Ex G G' → Ex G' H' →
  (∀ i d, ds[i]? = some d → J.go i H' ∧ ∀ x H'', J.yld i H' x H'' → ∃ G'', Xt m G' H' G'' H'' ∧ Rp K G'' x d) ∧ J.stop ds.length H'
def IW (wi : TI) (ρ : Rho) (P : List PyData → Prop) : Prop := ∀ m G0 H0 G σ H, Sta K m G0 H0 G σ H ρ → ∀ R : It → Hp → Prop, (∀ J ds G2 H2, Xt m G H G2 H2 → (∀ m', Walks K m' J G2 ds) → P ds → R J H2) → wi σ H R
/-- a target takes the data d; js: the slots that it stores -/
def GD (g : TG) (d : PyData) (ρ ρ' : Rho) (js : List Nat) : Prop := ∀ m G0 H0 G σ H v, Sta K m G0 H0 G σ H ρ → Rp K G v d → ∀ Q : L2.St → Hp → Prop,
  (∀ σ', Sta K m G0 H0 G σ' H ρ' → (∀ vs : List Nat, (∀ j ∈ js, j ∈ vs) → wipe σ' vs = wipe σ vs) → Q σ' H) → g v σ H Q
def GDs (g : TGs) (ds : List PyData) (ρ ρ' : Rho) (js : List Nat) : Prop := ∀ m G0 H0 G σ H vs, Sta K m G0 H0 G σ H ρ → RpAll K G vs ds → ∀ Q : L2.St → Hp → Prop,
  (∀ σ', Sta K m G0 H0 G σ' H ρ' → (∀ us : List Nat, (∀ j ∈ js, j ∈ us) → wipe σ' us = wipe σ us) → Q σ' H) → g vs σ H Q
end
/-- what is wanted behind a block -/
structure DE where
  nx : Rho → Prop
  rt : PyData → Prop
  bk : Rho → Prop := fun _ => False
  ct : Rho → Prop := fun _ => False
structure EOk (K : PySem.W.Frag) (m : Option Addr) (G0 H0 : Hp) (D : Ends) (E : DE) : Prop where
  nx : ∀ G' σ' H' ρ', Sta K m G0 H0 G' σ' H' ρ' → E.nx ρ' → D.nx σ' H'
  rt : ∀ v d G' H', Xt m G0 H0 G' H' → Rp K G' v d → E.rt d → D.rt v H'
  bk : ∀ G' σ' H' ρ', Sta K m G0 H0 G' σ' H' ρ' → E.bk ρ' → D.bk σ' H'
  ct : ∀ G' σ' H' ρ', Sta K m G0 H0 G' σ' H' ρ' → E.ct ρ' → D.ct σ' H'
def SD (K : PySem.W.Frag) (t : TS) (ρ : Rho) (E : DE) : Prop := ∀ m G0 H0 G σ H (D : Ends), Sta K m G0 H0 G σ H ρ → EOk K m G0 H0 D E → t D σ H

section
variable {K : PySem.W.Frag} {ρ ρ' : Rho} {te ta tb : TE} {tt tu : TT} {d e z : PyData} {ds es : List PyData} {P : PyData → Prop} {E : DE} {t u : TS} {i j : Nat}
theorem EX.ed (h : EX K te ρ d) (p : P d) : ED K te ρ P := fun m G0 H0 G σ H S Q q => h m G0 H0 G σ H S Q fun v G2 H2 x r => q v d G2 H2 x r p
theorem ED.ex (h : ED K te ρ fun e => e = d) : EX K te ρ d := fun m G0 H0 G σ H S Q q => h m G0 H0 G σ H S Q fun v e G2 H2 x r p => q v G2 H2 x (p ▸ r)
theorem ED.imp {P' : PyData → Prop} (h : ED K te ρ P) (p : ∀ d, P d → P' d) : ED K te ρ P' := fun m G0 H0 G σ H S Q q => h m G0 H0 G σ H S Q fun v e G2 H2 x r k => q v e G2 H2 x r (p e k)
theorem EX.is (h : EX K te ρ d) (p : d = e) : EX K te ρ e := p ▸ h
theorem EL.is (h : EL K te ρ ds) (p : ds = es) : EL K te ρ es := p ▸ h
theorem ET.is {a b : Bool} (h : ET K tt ρ a) (p : a = b) : ET K tt ρ b := p ▸ h
theorem ET.p {b : Bool} {P : Bool → Prop} (h : ET K tt ρ b) (p : P b) : ETP K tt ρ P := fun m G0 H0 G σ H S Q q => h m G0 H0 G σ H S Q fun G2 H2 x => q b G2 H2 x p
theorem Xt.lst {m : Option Addr} {G H G2 H2 : Hp} {p : Addr} {xs : List V} (x : Xt m G H G2 H2) (hp : H p = none) (g2 : G2 p = none) (h2 : H2 p = some (.lst xs)) : Xt m G H (upd G2 p (.lst xs)) H2 := by
  refine ⟨x.gg.trans (Ex.new g2), x.hh, fun a u e => ?_, fun a g k => ?_, x.nn, x.pt, x.nt⟩
  · by_cases z : a = p
    · subst z
      rw [upd_same] at e
      rw [h2]
      exact e
    · rw [upd_ne z] at e
      exact x.gh a u e
  · have z : a ≠ p := fun z => by rw [z, hp] at k; exact nomatch k
    rw [upd_ne z]
    exact x.fr a g k
theorem Xt.mut {m : Option Addr} {G H G2 H2 : Hp} {p : Addr} {o : HO} (x : Xt m G H G2 H2) (hp : H p = none) (g2 : G2 p = none) (pm : ∀ q, m = some q → H q ≠ none) : Xt m G H G2 (upd H2 p o) := by
  refine ⟨x.gg, fun a u n e => ?_, fun a u e => ?_, x.fr, fun a e => ?_, fun q e h => ?_, fun a e => ?_⟩
  · have z : a ≠ p := fun z => by rw [z, hp] at e; cases e
    rw [upd_ne z]
    exact x.hh a u n e
  · have z : a ≠ p := fun z => by rw [z, g2] at e; cases e
    rw [upd_ne z]
    exact x.gh a u e
  · have z : a ≠ p := fun z => e (by rw [z]; exact hp)
    rw [upd_ne z]
    exact x.nn a e
  · have z : q ≠ p := fun z => pm q e (by rw [z]; exact hp)
    obtain ⟨i, j, h1, h2, h3, hh⟩ := x.pt q e h
    exact ⟨i, j, h1, h2, h3, by rw [upd_ne z]; exact hh⟩
  · have z : a ≠ p := fun z => by rw [z, hp] at e; exact nomatch e
    rw [upd_ne z]
    exact x.nt a e
theorem EL.ex (h : EL K te ρ ds) : EX K te ρ (.list ds) := fun m G0 H0 G σ H S Q q => h m G0 H0 G σ H S Q fun p xs G2 H2 x hp g2 h2 r =>
  q (.ref p) _ H2 (x.lst hp g2 h2) (.lst upd_same (r.mono (Ex.new g2)))
theorem EX.toS (h : EX K te ρ d) : ES K te ρ (.dat d) := fun m G0 H0 G σ H S Q q => h m G0 H0 G σ H S Q fun v G2 H2 x r => q v G2 H2 x ⟨v, rfl, r⟩
theorem EL.toS (h : EL K te ρ ds) : ES K te ρ (.own ds) := fun m G0 H0 G σ H S Q q => h m G0 H0 G σ H S Q fun p xs G2 H2 x hp g2 h2 r => q (.ref p) G2 H2 x ⟨p, xs, rfl, g2, hp, h2, r⟩
theorem Sta.potH {m : Option Addr} {G0 H0 G H : Hp} {σ : L2.St} (S : Sta K m G0 H0 G σ H ρ) : ∀ q, m = some q → H q ≠ none := fun q e => S.xt.nn q (S.pt q e).2.1
/-- what is held stays so -/
theorem SlOk.step {m : Option Addr} {B G H G2 H2 : Hp} {o : Option V} (pm : ∀ q, m = some q → B q ≠ none) (x : Xt m G H G2 H2) : ∀ {s : Sl}, SlOk K m B G H o s → SlOk K m B G2 H2 o s
  | .no, _ => trivial
  | .dat d, q => by
    obtain ⟨v, h1, h2⟩ := q
    exact ⟨v, h1, h2.mono x.gg⟩
  | .own ds, q => by
    obtain ⟨p, xs, h1, h2, h3, h4, h5⟩ := q
    exact ⟨p, xs, h1, x.fr p h2 (by rw [h4]; rfl), h3, x.hh p _ (fun z => pm p z h3) h4, h5.mono x.gg⟩
  | .ownD ks ds, q => by
    obtain ⟨p, xs, h1, h2, h3, hl, h4, h5⟩ := q
    exact ⟨p, xs, h1, x.fr p h2 (by rw [h4]; rfl), h3, hl, x.hh p _ (fun z => pm p z h3) h4, h5.mono x.gg⟩
  | .pot, q => q
  | .val _, q => q
/-- .. counted from an earlier heap -/
theorem SlOk.from' {m : Option Addr} {B B' G H : Hp} {o : Option V} (n : ∀ a, B' a ≠ none → B a ≠ none) : ∀ {s : Sl}, SlOk K m B G H o s → SlOk K m B' G H o s
  | .no, _ => trivial
  | .dat d, q => q
  | .own ds, q => by
    obtain ⟨p, xs, h1, h2, h3, h4, h5⟩ := q
    refine ⟨p, xs, h1, h2, ?_, h4, h5⟩
    cases e : B' p with
    | none => rfl
    | some o => exact absurd h3 (n p (by rw [e]; exact fun z => nomatch z))
  | .ownD ks ds, q => by
    obtain ⟨p, xs, h1, h2, h3, hl, h4, h5⟩ := q
    refine ⟨p, xs, h1, h2, ?_, hl, h4, h5⟩
    cases e : B' p with
    | none => rfl
    | some o => exact absurd h3 (n p (by rw [e]; exact fun z => nomatch z))
  | .pot, q => q
  | .val _, q => q
/-- what is owned is at an address that was free at B -/
theorem SlOk.fresh {m : Option Addr} {B G H : Hp} {v : V} : ∀ {s : Sl}, SlOk K m B G H (some v) s → s.owns = true → ∃ p, v = .ref p ∧ B p = none ∧ H p ≠ none
  | .own ds, q, _ => by
    obtain ⟨p, xs, h1, h2, h3, h4, h5⟩ := q
    exact ⟨p, Option.some.inj h1, h3, by rw [h4]; exact fun z => nomatch z⟩
  | .ownD ks ds, q, _ => by
    obtain ⟨p, xs, h1, h2, h3, hl, h4, h5⟩ := q
    exact ⟨p, Option.some.inj h1, h3, by rw [h4]; exact fun z => nomatch z⟩
theorem Sta.ownH {m : Option Addr} {G0 H0 G H : Hp} {σ : L2.St} (S : Sta K m G0 H0 G σ H ρ) {j : Nat} {t : Sl} {p : Addr} (e : ρ[j]? = some t) (o : t.owns = true) (h : σ[j]? = some (some (.ref p))) : H p ≠ none := by
  have q := S.sl j t e
  rw [h] at q
  obtain ⟨p', e1, _, e3⟩ := SlOk.fresh (v := .ref p) q o
  cases e1
  exact e3
/-- a value that came from H on is stored -/
theorem Sta.store {m : Option Addr} {G0 H0 G H G2 H2 : Hp} {σ : L2.St} (S : Sta K m G0 H0 G σ H ρ) (x : Xt m G H G2 H2) {i : Nat} {v : V} {s : Sl} (h : SlOk K m H G2 H2 (some v) s) : Sta K m G0 H0 G2 (σ.set i (some v)) H2 (ρ.set i s) := by
  refine (S.step x).set (h.from' S.xt.nn) fun ow j t e o q => ?_
  obtain ⟨p, e1, e2, _⟩ := h.fresh ow
  subst e1
  exact S.ownH e o q e2

/-! ### targets -/
theorem wipe_set {σ : L2.St} {x : Option V} {j : Nat} : ∀ {vs : List Nat}, j ∈ vs → wipe (σ.set j x) vs = wipe σ vs
  | v :: vs, h => by
    unfold wipe
    by_cases e : j ∈ vs
    · rw [wipe_set e]
    · have ev : j = v := by
        rcases List.mem_cons.mp h with z | z
        · exact z
        · exact absurd z e
      subst ev
      have go : ∀ {us : List Nat}, j ∉ us → wipe (σ.set j x) us = (wipe σ us).set j x := fun {us} => by
        induction us with
        | nil => intro _; rfl
        | cons w us ih =>
          intro hn
          unfold wipe
          rw [ih fun z => hn (List.mem_cons_of_mem _ z), List.set_comm _ _ (fun z => hn (by rw [z]; exact List.mem_cons_self))]
      rw [go e, List.set_set]
theorem gd_name : GD K (gName j) d ρ (ρ.set j (.dat d)) [j] := fun m G0 H0 G σ H v S r Q q => q _ (S.setD j r) fun vs h => wipe_set (h j (by simp))
theorem gds_nil : GDs K gNil [] ρ ρ [] := fun m G0 H0 G σ H vs S r Q q => by
  cases r
  exact ⟨rfl, q σ S fun _ _ => rfl⟩
theorem gds_cons {g : TG} {gs : TGs} {ρ1 : Rho} {js ks : List Nat} (h : GD K g d ρ ρ1 js) (hs : GDs K gs ds ρ1 ρ' ks) : GDs K (gCons g gs) (d :: ds) ρ ρ' (js ++ ks) := fun m G0 H0 G σ H vs S r Q q => by
  cases r with
  | @cons v vs _ _ r1 r2 =>
    refine ⟨v, vs, rfl, h m G0 H0 G σ H v S r1 _ fun σ1 S1 w1 => hs m G0 H0 G σ1 H vs S1 r2 Q fun σ2 S2 w2 => q σ2 S2 fun us hu => ?_⟩
    rw [w2 us fun j hj => hu j (List.mem_append_right _ hj), w1 us fun j hj => hu j (List.mem_append_left _ hj)]
theorem gd_tup {gs : TGs} {n : Nat} {js : List Nat} (h : GDs K gs ds ρ ρ' js) (hn : ds.length = n) : GD K (gTup K n gs) (.tuple ds) ρ ρ' js := fun m G0 H0 G σ H v S r Q q => by
  cases r with
  | tup hs ha => exact ⟨_, _, rfl, ex_t S.xt.gh hs, ha.len.trans hn, h m G0 H0 G σ H _ S ha Q q⟩

/-! ### blocks -/
theorem EOk.now {m : Option Addr} {G0 H0 G H : Hp} {σ : L2.St} {D : Ends} (S : Sta K m G0 H0 G σ H ρ) (O : EOk K m G0 H0 D E) : EOk K m G H0 D E :=
  ⟨fun G' σ' H' ρ' S' => O.nx G' σ' H' ρ' (S.then S'), fun v d G' H' x => O.rt v d G' H' (S.back x), fun G' σ' H' ρ' S' => O.bk G' σ' H' ρ' (S.then S'), fun G' σ' H' ρ' S' => O.ct G' σ' H' ρ' (S.then S')⟩
theorem sd_next (h : E.nx ρ) : SD K tNext ρ E := fun m G0 H0 G σ H D S O => O.nx G σ H ρ S h
theorem sd_cont (h : E.ct ρ) : SD K tCont ρ E := fun m G0 H0 G σ H D S O => O.ct G σ H ρ S h
theorem sd_break (h : E.bk ρ) : SD K tBreak ρ E := fun m G0 H0 G σ H D S O => O.bk G σ H ρ S h
theorem sd_seq (h : SD K t ρ ⟨fun ρ' => SD K u ρ' E, E.rt, E.bk, E.ct⟩) : SD K (tSeq t u) ρ E := fun m G0 H0 G σ H D S O =>
  h m G0 H0 G σ H { D with nx := u D } S ⟨fun G' σ' H' ρ' S' k => k m G0 H0 G' σ' H' D S' O, O.rt, O.bk, O.ct⟩
theorem sd_asg (h : ES K te ρ (s : Sl)) (k : E.nx (ρ.set i s)) : SD K (tAsg te (gName i)) ρ E := fun m G0 H0 G σ H D S O =>
  h m G0 H0 G σ H S _ fun v G2 H2 x q => O.nx _ _ _ _ (S.store x q) k
theorem sd_asgP (h : ED K te ρ P) (k : ∀ d, P d → E.nx (ρ.set i (.dat d))) : SD K (tAsg te (gName i)) ρ E := fun m G0 H0 G σ H D S O =>
  h m G0 H0 G σ H S _ fun v d G2 H2 x r p => O.nx _ _ _ _ ((S.step x).setD i r) (k d p)
theorem sd_tgt {g : TG} {js : List Nat} (h : EX K te ρ d) (hg : GD K g d ρ ρ' js) (k : E.nx ρ') : SD K (tAsg te g) ρ E := fun m G0 H0 G σ H D S O =>
  h m G0 H0 G σ H S _ fun v G2 H2 x r => hg m G0 H0 G2 σ H2 v (S.step x) r _ fun σ' S' _ => O.nx _ _ _ _ S' k
theorem sd_par {s1 s2 : Sl} (h1 : ES K ta ρ s1) (h2 : ES K tb ρ s2) (k : E.nx ((ρ.set i s1).set j s2)) : SD K (tPar i j (tCons ta (tCons tb tNil))) ρ E := fun m G0 H0 G σ H D S O =>
  h1 m G0 H0 G σ H S _ fun v G1 H1 x1 q1 => h2 m G0 H0 G1 σ H1 (S.step x1) _ fun w G2 H2 x2 q2 => ⟨v, w, rfl, by
    have S2 := S.store (i := i) x1 q1
    have q1' := SlOk.step S.potH x2 q1
    have S3 := S.store (i := i) (x1.trans x2) q1'
    refine O.nx G2 _ H2 _ (S3.set (q2.from' fun a h => (S.step x1).xt.nn a h) fun ow jj t e o q => ?_) k
    obtain ⟨p, e1, e2, _⟩ := q2.fresh ow
    subst e1
    rcases set_get e with ⟨rfl, rfl⟩ | ⟨ne, e⟩
    · obtain ⟨p', f1, f2, f3⟩ := q1.fresh o
      subst f1
      have hl : i < σ.length := by
        have := (List.getElem?_eq_some_iff.mp q).1
        simpa using this
      rw [List.getElem?_set_self hl] at q
      cases q
      exact f3 e2
    · rw [List.getElem?_set_ne ne] at q
      exact (S.step x1).ownH e o q e2⟩
theorem sd_ret (h : EX K te ρ d) (k : E.rt d) : SD K (tRet te) ρ E := fun m G0 H0 G σ H D S O => h m G0 H0 G σ H S _ fun v G2 H2 x r => O.rt v d G2 H2 (S.xt.trans x) r k
theorem sd_retP (h : ED K te ρ P) (k : ∀ d, P d → E.rt d) : SD K (tRet te) ρ E := fun m G0 H0 G σ H D S O => h m G0 H0 G σ H S _ fun v d G2 H2 x r p => O.rt v d G2 H2 (S.xt.trans x) r (k d p)
theorem sd_drop (h : EX K te ρ d) (k : E.nx ρ) : SD K (tDrop te) ρ E := fun m G0 H0 G σ H D S O => h m G0 H0 G σ H S _ fun v G2 H2 x r => O.nx G2 σ H2 ρ (S.step x) k
theorem sd_if {b : Bool} (h : ET K tt ρ b) (h1 : b = true → SD K t ρ E) (h2 : b = false → SD K u ρ E) : SD K (tIfS tt t u) ρ E := fun m G0 H0 G σ H D S O => h m G0 H0 G σ H S _ fun G2 H2 x => by
  cases b with
  | true => exact h1 rfl m G0 H0 G2 σ H2 D (S.step x) O
  | false => exact h2 rfl m G0 H0 G2 σ H2 D (S.step x) O
theorem sd_ifP {P : Bool → Prop} (h : ETP K tt ρ P) (h1 : P true → SD K t ρ E) (h2 : P false → SD K u ρ E) : SD K (tIfS tt t u) ρ E := fun m G0 H0 G σ H D S O => h m G0 H0 G σ H S _ fun b G2 H2 x p => by
  cases b with
  | true => exact h1 p m G0 H0 G2 σ H2 D (S.step x) O
  | false => exact h2 p m G0 H0 G2 σ H2 D (S.step x) O
theorem sd_imp {E' : DE} (h : SD K t ρ E') (n : ∀ ρ', E'.nx ρ' → E.nx ρ') (r : ∀ d, E'.rt d → E.rt d) (b : ∀ ρ', E'.bk ρ' → E.bk ρ') (c : ∀ ρ', E'.ct ρ' → E.ct ρ') : SD K t ρ E := fun m G0 H0 G σ H D S O =>
  h m G0 H0 G σ H D S ⟨fun G' σ' H' ρ' S' k => O.nx G' σ' H' ρ' S' (n ρ' k), fun v d G' H' x q k => O.rt v d G' H' x q (r d k), fun G' σ' H' ρ' S' k => O.bk G' σ' H' ρ' S' (b ρ' k), fun G' σ' H' ρ' S' k => O.ct G' σ' H' ρ' S' (c ρ' k)⟩
/-- our list is data from here on -/
theorem sd_freeze (i : Nat) {ds : List PyData} (hi : ρ[i]? = some (.own ds)) (h : SD K t (ρ.set i (.dat (.list ds))) E) : SD K t ρ E := fun m G0 H0 G σ H D S O => by
  obtain ⟨p, xs, _, _, _, _, S'⟩ := S.freeze hi
  exact h m G0 H0 _ σ H D S' O
theorem sd_for {wi : TI} {g : TG} {Pd : List PyData → Prop} (hw : IW K wi ρ Pd) (h : ∀ ds, Pd ds → ∃ Iv : Nat → Rho → Prop, Iv 0 ρ ∧
    (∀ i d ρ', ds[i]? = some d → Iv i ρ' → ∃ ρ'' js, GD K g d ρ' ρ'' js ∧ SD K t ρ'' ⟨Iv (i + 1), E.rt, E.nx, Iv (i + 1)⟩) ∧ ∀ ρ', Iv ds.length ρ' → E.nx ρ') : SD K (tFor wi g t) ρ E := fun m G0 H0 G σ H D S O =>
  hw m G0 H0 G σ H S _ fun J ds G1 H1 x1 wk pd => by
    obtain ⟨Iv, h0, hs, hd⟩ := h ds pd
    refine ⟨fun i n σ' H' => n = ds.length - i ∧ i ≤ ds.length ∧ ∃ G' ρ', Sta K m G0 H0 G' σ' H' ρ' ∧ Ex G1 G' ∧ Iv i ρ', ⟨ds.length, rfl, Nat.zero_le _, G1, ρ, S.step x1, Ex.refl G1, h0⟩, ?_⟩
    rintro i n σ' H' ⟨rfl, hi, G', ρ', S', e', iv⟩
    obtain ⟨w1, w2⟩ := wk m G' H' e' S'.xt.gh
    by_cases hlt : i < ds.length
    · have hg : ds[i]? = some ds[i] := List.getElem?_eq_getElem hlt
      obtain ⟨go, yl⟩ := w1 i _ hg
      refine .inr ⟨go, fun σ2 H2 => ∃ G2 ρ2, Sta K m G0 H0 G2 σ2 H2 ρ2 ∧ Ex G1 G2 ∧ Iv (i + 1) ρ2, fun σ2 H2 ⟨G2, ρ2, S2, e2, iv2⟩ => ⟨ds.length - (i + 1), by omega, rfl, hlt, G2, ρ2, S2, e2, iv2⟩, fun x H2 y => ?_⟩
      obtain ⟨G2, x2, r2⟩ := yl x H2 y
      obtain ⟨ρ2, js, gd, sd⟩ := hs i _ ρ' hg iv
      have S2 := S'.step x2
      refine gd m G0 H0 G2 σ' H2 x S2 r2 _ fun σ3 S3 _ => ?_
      have e3 : Ex G1 G2 := e'.trans x2.gg
      refine sd m G2 H0 G2 σ3 H2 _ S3.now ⟨fun G4 σ4 H4 ρ4 S4 k => ⟨G4, ρ4, S3.then S4, e3.trans S4.xt.gg, k⟩, fun v d G4 H4 x4 r4 k => O.rt v d G4 H4 (S3.back x4) r4 k, fun G4 σ4 H4 ρ4 S4 k => O.nx G4 σ4 H4 ρ4 (S3.then S4) k, fun G4 σ4 H4 ρ4 S4 k => ⟨G4, ρ4, S3.then S4, e3.trans S4.xt.gg, k⟩⟩
    · have ei : i = ds.length := by omega
      subst ei
      exact .inl ⟨w2, O.nx G' σ' H' ρ' S' (hd ρ' iv)⟩
theorem sd_while (Iv : Nat → Rho → Prop) (n0 : Nat) (h0 : Iv n0 ρ) (hs : ∀ n ρ', Iv n ρ' → ∃ b, ET K tt ρ' b ∧ (b = true → SD K t ρ' ⟨fun ρ2 => ∃ n', n' < n ∧ Iv n' ρ2, E.rt, E.nx, fun ρ2 => ∃ n', n' < n ∧ Iv n' ρ2⟩) ∧ (b = false → E.nx ρ')) :
    SD K (tWhile tt t) ρ E := fun m G0 H0 G σ H D S O => by
  refine ⟨fun n σ' H' => ∃ G' ρ', Sta K m G0 H0 G' σ' H' ρ' ∧ Iv n ρ', ⟨n0, G, ρ, S, h0⟩, ?_⟩
  rintro n σ' H' ⟨G', ρ', S', iv⟩
  obtain ⟨b, ht, h1, h2⟩ := hs n ρ' iv
  refine ht m G0 H0 G' σ' H' S' _ fun G2 H2 x => ?_
  cases b with
  | true =>
    refine ⟨fun σ3 H3 => ∃ G3 ρ3, Sta K m G0 H0 G3 σ3 H3 ρ3 ∧ ∃ n', n' < n ∧ Iv n' ρ3, fun σ3 H3 ⟨G3, ρ3, S3, n', l, iv3⟩ => ⟨n', l, G3, ρ3, S3, iv3⟩, ?_⟩
    exact h1 rfl m G0 H0 G2 σ' H2 _ (S'.step x) ⟨fun G3 σ3 H3 ρ3 S3 k => ⟨G3, ρ3, S3, k⟩, O.rt, O.nx, fun G3 σ3 H3 ρ3 S3 k => ⟨G3, ρ3, S3, k⟩⟩
  | false => exact O.nx G2 σ' H2 ρ' (S'.step x) (h2 rfl)
/-- a word between -/
theorem sd_cut {tw : TS} (Mid : Rho → Prop) (h : SD K t ρ ⟨Mid, E.rt, E.bk, E.ct⟩) (k : ∀ ρ', Mid ρ' → SD K tw ρ' E) : SD K (tSeq t tw) ρ E := sd_seq (sd_imp h k (fun _ h => h) (fun _ h => h) fun _ h => h)

/-! ### our lists change -/
theorem sd_append {ds : List PyData} (hi : ρ[i]? = some (.own ds)) (h : EX K te ρ d) (hz : ds.length < 100000) (k : E.nx (ρ.set i (.own (ds ++ [d])))) : SD K (tDrop (tBM K "list" rAppend (tVar i) (tCons te tNil))) ρ E := fun m G0 H0 G σ H D S O => by
  obtain ⟨p, xs, h1, h2, h3, h4, h5⟩ := S.sl i _ hi
  have hv := join_some h1
  refine ⟨.ref p, hv, .inl ⟨rfl, xs, .inl (.inl h4)⟩, h m G0 H0 G σ H S _ fun v G2 H2 x r => ?_⟩
  have nm : m ≠ some p := fun z => (S.pt p z).2.1 h3
  have h4' := x.hh p _ nm h4
  have g2 := x.fr p h2 (by rw [h4]; rfl)
  refine ⟨p, xs, v, rfl, rfl, h4', sz_lt (by rw [h5.len]; exact hz), O.nx G2 σ _ _ ((S.step x).mut hi rfl hv g2 h3 (by rw [h4']; exact fun z => nomatch z) ?_) k⟩
  exact ⟨p, _, rfl, g2, h3, upd_same, (h5.mono x.gg).app (.one r)⟩
theorem sd_extend {ds : List PyData} (hi : ρ[i]? = some (.own ds)) (h : EL K te ρ es) (hz : ds.length + es.length ≤ 100000) (k : E.nx (ρ.set i (.own (ds ++ es)))) : SD K (tDrop (tBM K "list" rExtend (tVar i) (tCons te tNil))) ρ E := fun m G0 H0 G σ H D S O => by
  obtain ⟨p, xs, h1, h2, h3, h4, h5⟩ := S.sl i _ hi
  have hv := join_some h1
  refine ⟨.ref p, hv, .inl ⟨rfl, xs, .inl (.inl h4)⟩, h m G0 H0 G σ H S _ fun q ys G2 H2 x hq g2q h2q r => ?_⟩
  have nm : m ≠ some p := fun z => (S.pt p z).2.1 h3
  have h4' := x.hh p _ nm h4
  have g2 := x.fr p h2 (by rw [h4]; rfl)
  refine ⟨p, q, xs, ys, rfl, rfl, h4', h2q, sz_of (by rw [h5.len, r.len]; exact hz), O.nx G2 σ _ _ ((S.step x).mut hi rfl hv g2 h3 (by rw [h4']; exact fun z => nomatch z) ?_) k⟩
  exact ⟨p, _, rfl, g2, h3, upd_same, (h5.mono x.gg).app r⟩
/-- xs[i] = e -/
theorem sd_setL {ds : List PyData} {n : Int} {k : Nat} (hi : ρ[i]? = some (.own ds)) (h : EX K te ρ d) (hx : EX K tb ρ (.int n)) (hk : ixN ds.length n = some k) (q : E.nx (ρ.set i (.own (ds.set k d)))) : SD K (tAsg te (gSub (tVar i) tb rSetL)) ρ E := fun m G0 H0 G σ H D S O => by
  obtain ⟨p, xs, h1, h2, h3, h4, h5⟩ := S.sl i _ hi
  have hv := join_some h1
  refine h m G0 H0 G σ H S _ fun v G2 H2 x r => ⟨.ref p, hv, hx m G0 H0 G2 σ H2 (S.step x) _ fun w G3 H3 x3 r3 => ?_⟩
  cases r3
  have x' := x.trans x3
  have nm : m ≠ some p := fun z => (S.pt p z).2.1 h3
  have h4' := x'.hh p _ nm h4
  have g2 := x'.fr p h2 (by rw [h4]; rfl)
  refine ⟨p, xs, n, k, rfl, rfl, h4', by rw [h5.len]; exact hk, O.nx G3 σ _ _ ((S.step x').mut hi rfl hv g2 h3 (by rw [h4']; exact fun z => nomatch z) ?_) q⟩
  exact ⟨p, _, rfl, g2, h3, upd_same, (h5.mono x'.gg).set (r.mono x3.gg) k⟩

/-! ### our list read on the way: what comes is flat -/
def flatD : PyData → Bool
  | .none => true
  | .bool _ => true
  | .int _ => true
  | .str _ => true
  | _ => false
theorem Rp.flat {G G' : Hp} : ∀ {d : PyData} {v : V}, flatD d = true → Rp K G v d → Rp K G' v d
  | .none, _, _, .non => .non
  | .bool b, _, _, .bl _ => .bl b
  | .int i, _, _, .int _ => .int i
  | .str x, _, _, .str _ => .str x
theorem Xt.hide {m : Option Addr} {G H G2 H2 : Hp} {p : Addr} {o : HO} (gp : G p = none) (x : Xt m (upd G p o) H G2 H2) : Xt m G H (fun a => if a = p then none else G2 a) H2 := by
  refine ⟨fun a u e => ?_, x.hh, fun a u e => ?_, fun a g k => ?_, x.nn, x.pt, x.nt⟩
  · have z : a ≠ p := fun z => by rw [z, gp] at e; cases e
    show (if a = p then none else G2 a) = some u
    rw [if_neg z]
    exact x.gg a u (by rw [upd_ne z]; exact e)
  · have e : (if a = p then none else G2 a) = some u := e
    by_cases z : a = p
    · rw [if_pos z] at e; cases e
    · rw [if_neg z] at e
      exact x.gh a u e
  · show (if a = p then none else G2 a) = none
    by_cases z : a = p
    · rw [if_pos z]
    · rw [if_neg z]
      exact x.fr a (by rw [upd_ne z]; exact g) k
theorem ex_frz (i : Nat) {ds : List PyData} (hi : ρ[i]? = some (.own ds)) (hf : flatD d = true) (h : EX K te (ρ.set i (.dat (.list ds))) d) : EX K te ρ d := fun m G0 H0 G σ H S Q q => by
  obtain ⟨p, xs, _, gp, _, _, S'⟩ := S.freeze hi
  exact h m G0 H0 _ σ H S' Q fun v G2 H2 x r => q v _ H2 (x.hide gp) (r.flat hf)
theorem et_frz (i : Nat) {ds : List PyData} {b : Bool} (hi : ρ[i]? = some (.own ds)) (h : ET K tt (ρ.set i (.dat (.list ds))) b) : ET K tt ρ b := fun m G0 H0 G σ H S Q q => by
  obtain ⟨p, xs, _, gp, _, _, S'⟩ := S.freeze hi
  exact h m G0 H0 _ σ H S' Q fun G2 H2 x => q _ H2 (x.hide gp)
end
end Kd

/-! Kd, part C: the rules of expressions. -/
namespace Kd
open PySem PySem.Spec PyProof.Rows L2 Evl

section
variable (K : PySem.W.Frag)
/-- an operation on data, a one-place one, a call; .. that give a new list -/
def RX (r : R2) (d e z : PyData) : Prop := ∀ m G H v w, Ex G H → Rp K G v d → Rp K G w e → ∀ Q : VK, (∀ u G2 H2, Xt m G H G2 H2 → Rp K G2 u z → Q u H2) → r v w H Q
def RXL (r : R2) (d e : PyData) (zs : List PyData) : Prop := ∀ m G H v w, Ex G H → Rp K G v d → Rp K G w e → ∀ Q : VK, (∀ p xs G2 H2, Xt m G H G2 H2 → H p = none → G2 p = none → H2 p = some (.lst xs) → RpAll K G2 xs zs → Q (.ref p) H2) → r v w H Q
def UX (r : V → Hp → VK → Prop) (d z : PyData) : Prop := ∀ m G H v, Ex G H → Rp K G v d → ∀ Q : VK, (∀ u G2 H2, Xt m G H G2 H2 → Rp K G2 u z → Q u H2) → r v H Q
def RCX (r : List V → Hp → VK → Prop) (ds : List PyData) (z : PyData) : Prop := ∀ m G H vs, Ex G H → RpAll K G vs ds → ∀ Q : VK, (∀ u G2 H2, Xt m G H G2 H2 → Rp K G2 u z → Q u H2) → r vs H Q
def RCL (r : List V → Hp → VK → Prop) (ds zs : List PyData) : Prop := ∀ m G H vs, Ex G H → RpAll K G vs ds → ∀ Q : VK, (∀ p xs G2 H2, Xt m G H G2 H2 → H p = none → G2 p = none → H2 p = some (.lst xs) → RpAll K G2 xs zs → Q (.ref p) H2) → r vs H Q
end

section
variable {K : PySem.W.Frag} {ρ ρ' : Rho} {te ta tb tc : TE} {tt tu : TT} {d e z : PyData} {ds es zs : List PyData} {P P1 P2 : PyData → Prop} {i j : Nat} {r : R2} {x y : Int} {b c : Bool} {tl th : TO} {tA tR : TA} {ss : List Sl}
/-! ### names, constants -/
theorem ex_var (h : ρ[i]? = some (.dat d)) : EX K (tVar i) ρ d := fun m G0 H0 G σ H S Q q => by
  obtain ⟨v, h1, h2⟩ := S.sl i _ h
  exact ⟨v, join_some h1, q v G H (Xt.refl S.xt.gh) h2⟩
theorem ex_k {v : V} (h : ∀ G, Rp K G v d) : EX K (tC v) ρ d := fun m G0 H0 G σ H S Q q => q v G H (Xt.refl S.xt.gh) (h G)
theorem ex_int : EX K (tC (.int x)) ρ (.int x) := ex_k fun _ => .int x
theorem ex_bl : EX K (tC (.bl b)) ρ (.bool b) := ex_k fun _ => .bl b
theorem ex_non : EX K (tC .non) ρ .none := ex_k fun _ => .non
theorem ex_str {s : Str} : EX K (tC (.str s)) ρ (.str s) := ex_k fun _ => .str s
/-! ### operators -/
theorem ex_op (ha : EX K ta ρ d) (hb : EX K tb ρ e) (hr : RX K r d e z) : EX K (tOp r ta tb) ρ z := fun m G0 H0 G σ H S Q q =>
  ha m G0 H0 G σ H S _ fun v G1 H1 x1 r1 => hb m G0 H0 G1 σ H1 (S.step x1) _ fun w G2 H2 x2 r2 => hr m G2 H2 v w x2.gh (r1.mono x2.gg) r2 Q fun u G3 H3 x3 r3 => q u G3 H3 ((x1.trans x2).trans x3) r3
theorem el_op (ha : EX K ta ρ d) (hb : EX K tb ρ e) (hr : RXL K r d e zs) : EL K (tOp r ta tb) ρ zs := fun m G0 H0 G σ H S Q q =>
  ha m G0 H0 G σ H S _ fun v G1 H1 x1 r1 => hb m G0 H0 G1 σ H1 (S.step x1) _ fun w G2 H2 x2 r2 => hr m G2 H2 v w x2.gh (r1.mono x2.gg) r2 Q fun p xs G3 H3 x3 hp g3 h3 r3 => q p xs G3 H3 ((x1.trans x2).trans x3) (by
    cases e : H p with
    | none => rfl
    | some o => exact absurd hp ((x1.trans x2).nn p (by rw [e]; exact fun z => nomatch z))) g3 h3 r3
theorem ed_op (ha : ED K ta ρ P1) (hb : ED K tb ρ P2) (hr : ∀ d e, P1 d → P2 e → ∃ z, RX K r d e z ∧ P z) : ED K (tOp r ta tb) ρ P := fun m G0 H0 G σ H S Q q =>
  ha m G0 H0 G σ H S _ fun v d G1 H1 x1 r1 p1 => hb m G0 H0 G1 σ H1 (S.step x1) _ fun w e G2 H2 x2 r2 p2 => by
    obtain ⟨z, hr, pz⟩ := hr d e p1 p2
    exact hr m G2 H2 v w x2.gh (r1.mono x2.gg) r2 Q fun u G3 H3 x3 r3 => q u z G3 H3 ((x1.trans x2).trans x3) r3 pz
theorem ex_un {r : V → Hp → VK → Prop} (ha : EX K ta ρ d) (hr : UX K r d z) : EX K (tUn r ta) ρ z := fun m G0 H0 G σ H S Q q =>
  ha m G0 H0 G σ H S _ fun v G1 H1 x1 r1 => hr m G1 H1 v x1.gh r1 Q fun u G3 H3 x3 r3 => q u G3 H3 (x1.trans x3) r3
theorem rx_int {f : Int → Int → Int} : RX K (rI0 fun i j => .int (f i j)) (.int x) (.int y) (.int (f x y)) := fun m G H v w e r1 r2 Q q => by
  cases r1
  cases r2
  exact ⟨x, y, rfl, rfl, q _ G H (Xt.refl e) (.int _)⟩
theorem rx_bl {f : Int → Int → Bool} : RX K (rI0 fun i j => .bl (f i j)) (.int x) (.int y) (.bool (f x y)) := fun m G H v w e r1 r2 Q q => by
  cases r1
  cases r2
  exact ⟨x, y, rfl, rfl, q _ G H (Xt.refl e) (.bl _)⟩
theorem rx_intC {C : Int → Int → Prop} {f : Int → Int → Int} (h : C x y) : RX K (rI C fun i j => .int (f i j)) (.int x) (.int y) (.int (f x y)) := fun m G H v w e r1 r2 Q q => by
  cases r1
  cases r2
  exact ⟨x, y, rfl, rfl, h, q _ G H (Xt.refl e) (.int _)⟩
theorem rx_eqI : RX K rEq (.int x) (.int y) (.bool (decide (x = y))) := fun m G H v w e r1 r2 Q q => by
  cases r1
  cases r2
  refine ⟨rfl, q _ G H (Xt.refl e) ?_⟩
  have : decide (V.int x = V.int y) = decide (x = y) := by
    by_cases h : x = y
    · rw [decide_eq_true h, h, decide_eq_true rfl]
    · rw [decide_eq_false h, decide_eq_false fun z => h (V.int.inj z)]
  rw [this]
  exact .bl _
theorem rx_neI : RX K rNe (.int x) (.int y) (.bool (!decide (x = y))) := fun m G H v w e r1 r2 Q q => by
  cases r1
  cases r2
  refine ⟨rfl, q _ G H (Xt.refl e) ?_⟩
  have : decide (V.int x = V.int y) = decide (x = y) := by
    by_cases h : x = y
    · rw [decide_eq_true h, h, decide_eq_true rfl]
    · rw [decide_eq_false h, decide_eq_false fun z => h (V.int.inj z)]
  rw [this]
  exact .bl _
theorem rx_eqB {a b : Bool} : RX K rEq (.bool a) (.bool b) (.bool (a == b)) := fun m G H v w e r1 r2 Q q => by
  cases r1
  cases r2
  refine ⟨rfl, q _ G H (Xt.refl e) ?_⟩
  cases a <;> cases b <;> exact .bl _
theorem rx_neB {a b : Bool} : RX K rNe (.bool a) (.bool b) (.bool (a != b)) := fun m G H v w e r1 r2 Q q => by
  cases r1
  cases r2
  refine ⟨rfl, q _ G H (Xt.refl e) ?_⟩
  cases a <;> cases b <;> exact .bl _
def isNoneD : PyData → Bool
  | .none => true
  | _ => false
theorem Rp.isN {G : Hp} {v : V} (h : Rp K G v d) : decide (v = .non) = isNoneD d := by
  cases h <;> rfl
theorem rx_isN : RX K (fun x y H Q => y = .non ∧ Q (.bl (decide (x = .non))) H) d .none (.bool (isNoneD d)) := fun m G H v w e r1 r2 Q q => by
  cases r2
  exact ⟨rfl, q _ G H (Xt.refl e) (by rw [r1.isN]; exact .bl _)⟩
theorem rx_notN : RX K (fun x y H Q => y = .non ∧ Q (.bl (!decide (x = .non))) H) d .none (.bool (!isNoneD d)) := fun m G H v w e r1 r2 Q q => by
  cases r2
  exact ⟨rfl, q _ G H (Xt.refl e) (by rw [r1.isN]; exact .bl _)⟩
theorem rx_eqD (hd : SeqAt.shaped d = true) (he : SeqAt.shaped e = true) : RX K (rEqD K) d e (.bool (PyData.eqv d e)) := fun m G H v w x r1 r2 Q q =>
  ⟨d, e, (r1.mono x).dp (SeqAt.canLay_of_shaped hd), (r2.mono x).dp (SeqAt.canLay_of_shaped he), hd, he, q _ G H (Xt.refl x) (.bl _)⟩
theorem rx_neD (hd : SeqAt.shaped d = true) (he : SeqAt.shaped e = true) : RX K (rNeD K) d e (.bool (!PyData.eqv d e)) := fun m G H v w x r1 r2 Q q =>
  ⟨d, e, (r1.mono x).dp (SeqAt.canLay_of_shaped hd), (r2.mono x).dp (SeqAt.canLay_of_shaped he), hd, he, q _ G H (Xt.refl x) (.bl _)⟩
theorem rx_inD (hd : SeqAt.shaped d = true) (he : SeqAt.shaped (.list ds) = true) : RX K (rInD K) d (.list ds) (.bool (ds.any fun z => PyData.eqv z d)) := fun m G H v w x r1 r2 Q q =>
  ⟨d, ds, (r1.mono x).dp (SeqAt.canLay_of_shaped hd), (r2.mono x).dp (SeqAt.canLay_of_shaped he), hd, he, q _ G H (Xt.refl x) (.bl _)⟩
theorem rx_notInD (hd : SeqAt.shaped d = true) (he : SeqAt.shaped (.list ds) = true) : RX K (rNotInD K) d (.list ds) (.bool (!ds.any fun z => PyData.eqv z d)) := fun m G H v w x r1 r2 Q q =>
  ⟨d, ds, (r1.mono x).dp (SeqAt.canLay_of_shaped hd), (r2.mono x).dp (SeqAt.canLay_of_shaped he), hd, he, q _ G H (Xt.refl x) (.bl _)⟩
theorem at_rp {G : Hp} {vs : List V} {k : Int} (r : RpAll K G vs ds) (h : atI ds k = some z) : ∃ v, atI vs k = some v ∧ Rp K G v z := by
  unfold atI at h ⊢
  rw [r.len]
  cases e : ixN ds.length k with
  | none =>
    rw [e] at h
    exact nomatch h
  | some j =>
    rw [e] at h
    exact r.get h
theorem rx_ixL (h : atI ds x = some z) : RX K (rIxL K) (.list ds) (.int x) z := fun m G H v w e r1 r2 Q q => by
  cases r2
  cases r1 with
  | lst hs ha =>
    obtain ⟨u, h1, h2⟩ := at_rp ha h
    exact ⟨_, _, x, u, rfl, rfl, .inl (.inl (e _ _ hs)), h1, q u G H (Xt.refl e) h2⟩
theorem rx_ixT (h : atI ds x = some z) : RX K (rIxT K) (.tuple ds) (.int x) z := fun m G H v w e r1 r2 Q q => by
  cases r2
  cases r1 with
  | tup hs ha =>
    obtain ⟨u, h1, h2⟩ := at_rp ha h
    exact ⟨_, _, x, u, rfl, rfl, ex_t e hs, h1, q u G H (Xt.refl e) h2⟩
theorem rxl_cat (hz : ds.length + es.length ≤ 100000) : RXL K rCat (.list ds) (.list es) (ds ++ es) := fun m G H v w x r1 r2 Q q => by
  cases r1 with
  | lst h1 a1 =>
    cases r2 with
    | lst h2 a2 => exact ⟨_, _, _, _, rfl, rfl, x _ _ h1, x _ _ h2, sz_of (by rw [a1.len, a2.len]; exact hz), fun p hp => q p _ G _ (Xt.new0 x hp) hp (fresh_back x hp) upd_same (a1.app a2)⟩
theorem rxl_rep {n : Nat} (hz : n ≤ 1000) : RXL K rRep (.list [d]) (.int (n : Int)) (List.replicate n d) := fun m G H v w x r1 r2 Q q => by
  cases r2
  cases r1 with
  | lst h1 a1 =>
    cases a1 with
    | cons h t =>
      cases t
      have e : ∀ (u : V) (n : Nat), (List.replicate n [u]).flatten = List.replicate n u := fun u n => by
        induction n with
        | zero => rfl
        | succ n ih => rw [List.replicate_succ, List.flatten_cons, ih]; rfl
      have e2 : ∀ (u : V) (n : Nat), Rp K G u d → RpAll K G (List.replicate n u) (List.replicate n d) := fun u n hu => by
        induction n with
        | zero => exact .nil
        | succ n ih => exact .cons hu ih
      refine ⟨_, _, _, rfl, rfl, x _ _ h1, by omega, by omega, sz_of (by show 1 * ((n : Int)).toNat ≤ 100000; omega), ?_⟩
      intro p hp
      refine q p _ G _ (Xt.new0 x hp) hp (fresh_back x hp) upd_same ?_
      rw [Int.toNat_natCast, e]
      exact e2 _ n h
theorem rx_catT (hz : ds.length + es.length ≤ 100000) : RX K (rCatA K) (.tuple ds) (.tuple es) (.tuple (ds ++ es)) := fun m G H v w x r1 r2 Q q => by
  cases r1 with
  | tup h1 a1 =>
    cases r2 with
    | tup h2 a2 =>
      refine ⟨_, _, _, _, rfl, rfl, ex_t x h1, ex_t x h2, sz_of (by rw [a1.len, a2.len]; exact hz), fun e => ?_, fun _ e => ?_, fun _ _ p hp => ?_⟩
      · subst e
        cases a1
        exact q _ G H (Xt.refl x) (.tup h2 a2)
      · subst e
        cases a2
        refine q _ G H (Xt.refl x) ?_
        rw [List.append_nil]
        exact .tup h1 a1
      · exact q _ _ _ (Xt.new x hp) (.tup (.inl (.inl upd_same)) ((a1.app a2).mono (Ex.new (fresh_back x hp))))
theorem ux_neg : UX K (rU fun i => .int (-i)) (.int x) (.int (-x)) := fun m G H v e r Q q => by
  cases r
  exact ⟨x, rfl, q _ G H (Xt.refl e) (.int _)⟩
/-! ### tests -/
theorem et_test (h : EX K te ρ (.bool b)) : ET K (tTest te) ρ b := fun m G0 H0 G σ H S Q q => h m G0 H0 G σ H S _ fun v G2 H2 x r => by
  cases r
  exact ⟨b, rfl, q G2 H2 x⟩
theorem et_B (h : EX K te ρ (.bool b)) : ET K (tB te) ρ b := fun m G0 H0 G σ H S Q q => h m G0 H0 G σ H S _ fun v G2 H2 x r => by
  cases r
  exact ⟨b, rfl, q G2 H2 x⟩
theorem etp_test {P : Bool → Prop} (h : ED K te ρ fun d => ∃ b, d = .bool b ∧ P b) : ETP K (tTest te) ρ P := fun m G0 H0 G σ H S Q q => h m G0 H0 G σ H S _ fun v d G2 H2 x r p => by
  obtain ⟨b, rfl, p⟩ := p
  cases r
  exact ⟨b, rfl, q b G2 H2 x p⟩
theorem et_and (h1 : ET K tt ρ b) (h2 : b = true → ET K tu ρ c) : ET K (tAnd tt tu) ρ (b && c) := fun m G0 H0 G σ H S Q q => h1 m G0 H0 G σ H S _ fun G2 H2 x => by
  cases b with
  | true => exact h2 rfl m G0 H0 G2 σ H2 (S.step x) Q fun G3 H3 x3 => q G3 H3 (x.trans x3)
  | false => exact q G2 H2 x
theorem et_or (h1 : ET K tt ρ b) (h2 : b = false → ET K tu ρ c) : ET K (tOr tt tu) ρ (b || c) := fun m G0 H0 G σ H S Q q => h1 m G0 H0 G σ H S _ fun G2 H2 x => by
  cases b with
  | true => exact q G2 H2 x
  | false => exact h2 rfl m G0 H0 G2 σ H2 (S.step x) Q fun G3 H3 x3 => q G3 H3 (x.trans x3)
theorem et_not (h : ET K tt ρ b) : ET K (tNot tt) ρ (!b) := fun m G0 H0 G σ H S Q q => h m G0 H0 G σ H S _ fun G2 H2 x => q G2 H2 x
theorem et_yes : ET K tYes ρ true := fun m G0 H0 G σ H S Q q => q G H (Xt.refl S.xt.gh)
theorem et_int (h : EX K te ρ (.int x)) : ET K (fun σ H Q => te σ H fun x H' => ∃ k, TruV K x H' k ∧ Q k H') ρ (x != 0) := fun m G0 H0 G σ H S Q q => h m G0 H0 G σ H S _ fun v G2 H2 x r => by
  cases r
  exact ⟨_, rfl, q G2 H2 x⟩
theorem ex_andV (h1 : EX K ta ρ (.bool b)) (h2 : b = true → EX K tb ρ (.bool c)) : EX K (tAndV ta tb) ρ (.bool (b && c)) := fun m G0 H0 G σ H S Q q => h1 m G0 H0 G σ H S _ fun v G2 H2 x r => by
  cases r
  refine ⟨b, rfl, ?_⟩
  cases b with
  | true => exact h2 rfl m G0 H0 G2 σ H2 (S.step x) Q fun v G3 H3 x3 r3 => q v G3 H3 (x.trans x3) r3
  | false => exact q _ G2 H2 x (.bl _)
theorem ex_orV (h1 : EX K ta ρ (.bool b)) (h2 : b = false → EX K tb ρ (.bool c)) : EX K (tOrV ta tb) ρ (.bool (b || c)) := fun m G0 H0 G σ H S Q q => h1 m G0 H0 G σ H S _ fun v G2 H2 x r => by
  cases r
  refine ⟨b, rfl, ?_⟩
  cases b with
  | true => exact q _ G2 H2 x (.bl _)
  | false => exact h2 rfl m G0 H0 G2 σ H2 (S.step x) Q fun v G3 H3 x3 r3 => q v G3 H3 (x.trans x3) r3
theorem ex_notV (h : EX K te ρ (.bool b)) : EX K (tNotV te) ρ (.bool (!b)) := fun m G0 H0 G σ H S Q q => h m G0 H0 G σ H S _ fun v G2 H2 x r => by
  cases r
  exact ⟨b, rfl, q _ G2 H2 x (.bl _)⟩
theorem ex_if (h : ET K tt ρ b) (h1 : b = true → EX K ta ρ d) (h2 : b = false → EX K tb ρ d) : EX K (tIf tt ta tb) ρ d := fun m G0 H0 G σ H S Q q => h m G0 H0 G σ H S _ fun G2 H2 x => by
  cases b with
  | true => exact h1 rfl m G0 H0 G2 σ H2 (S.step x) Q fun v G3 H3 x3 r3 => q v G3 H3 (x.trans x3) r3
  | false => exact h2 rfl m G0 H0 G2 σ H2 (S.step x) Q fun v G3 H3 x3 r3 => q v G3 H3 (x.trans x3) r3
theorem ed_if {R : Bool → Prop} (h : ETP K tt ρ R) (h1 : R true → ED K ta ρ P) (h2 : R false → ED K tb ρ P) : ED K (tIf tt ta tb) ρ P := fun m G0 H0 G σ H S Q q => h m G0 H0 G σ H S _ fun b G2 H2 x p => by
  cases b with
  | true => exact h1 p m G0 H0 G2 σ H2 (S.step x) Q fun v d G3 H3 x3 r3 p3 => q v d G3 H3 (x.trans x3) r3 p3
  | false => exact h2 p m G0 H0 G2 σ H2 (S.step x) Q fun v d G3 H3 x3 r3 p3 => q v d G3 H3 (x.trans x3) r3 p3
/-- a op1 b op2 c: the last is a test of its own -/
theorem ex_chain {r r' : R2} (ha : EX K ta ρ d) (hb : EX K tb ρ e) (hc : EX K tc ρ z) (h1 : RX K r d e (.bool b)) (h2 : RX K r' e z (.bool c)) : EX K (tChain r r' ta tb tc) ρ (.bool (b && c)) := fun m G0 H0 G σ H S Q q =>
  ha m G0 H0 G σ H S _ fun v G1 H1 x1 r1 => hb m G0 H0 G1 σ H1 (S.step x1) _ fun w G2 H2 x2 r2 => h1 m G2 H2 v w x2.gh (r1.mono x2.gg) r2 _ fun u G3 H3 x3 r3 => by
    cases r3
    refine ⟨b, rfl, ?_⟩
    cases b with
    | true => exact hc m G0 H0 G3 σ H3 (((S.step x1).step x2).step x3) _ fun y G4 H4 x4 r4 => h2 m G4 H4 w y x4.gh (r2.mono (x3.gg.trans x4.gg)) r4 Q fun u G5 H5 x5 r5 => q u G5 H5 (((x1.trans x2).trans (x3.trans x4)).trans x5) r5
    | false => exact q _ G3 H3 ((x1.trans x2).trans x3) (.bl _)
/-! ### arguments, displays, calls -/
theorem eax_nil : EAX K tNil ρ [] := fun m G0 H0 G σ H S Q q => q [] G H (Xt.refl S.xt.gh) .nil
theorem eax_cons (h : EX K te ρ d) (hr : EAX K tR ρ ds) : EAX K (tCons te tR) ρ (d :: ds) := fun m G0 H0 G σ H S Q q =>
  h m G0 H0 G σ H S _ fun v G1 H1 x1 r1 => hr m G0 H0 G1 σ H1 (S.step x1) _ fun vs G2 H2 x2 r2 => q _ G2 H2 (x1.trans x2) (.cons (r1.mono x2.gg) r2)
theorem ex_tup (h : EAX K tA ρ ds) (hz : ds.length ≤ 100000) : EX K (tTup tA) ρ (.tuple ds) := fun m G0 H0 G σ H S Q q =>
  h m G0 H0 G σ H S _ fun vs G1 H1 x1 r1 => ⟨sz_of (by rw [r1.len]; exact hz), fun p hp => q _ _ _ (x1.trans (Xt.new x1.gh hp)) (.tup (.inl (.inl upd_same)) (r1.mono (Ex.new (fresh_back x1.gh hp))))⟩
theorem Xt.freeB {m : Option Addr} {G H G2 H2 : Hp} {p : Addr} (x : Xt m G H G2 H2) (h : H2 p = none) : H p = none := by
  cases e : H p with
  | none => rfl
  | some o => exact absurd h (x.nn p (by rw [e]; exact fun z => nomatch z))
theorem el_lst (h : EAX K tA ρ ds) (hz : ds.length ≤ 100000) : EL K (tLst tA) ρ ds := fun m G0 H0 G σ H S Q q =>
  h m G0 H0 G σ H S _ fun vs G1 H1 x1 r1 => ⟨sz_of (by rw [r1.len]; exact hz), fun p hp => q p vs G1 _ (x1.trans (Xt.new0 x1.gh hp)) (x1.freeB hp) (fresh_back x1.gh hp) upd_same r1⟩
theorem ex_cb {r : List V → Hp → VK → Prop} (h : EAX K tA ρ ds) (hr : RCX K r ds z) : EX K (tCB r tA) ρ z := fun m G0 H0 G σ H S Q q =>
  h m G0 H0 G σ H S _ fun vs G1 H1 x1 r1 => hr m G1 H1 vs x1.gh r1 Q fun u G2 H2 x2 r2 => q u G2 H2 (x1.trans x2) r2
theorem el_cb {r : List V → Hp → VK → Prop} (h : EAX K tA ρ ds) (hr : RCL K r ds zs) : EL K (tCB r tA) ρ zs := fun m G0 H0 G σ H S Q q =>
  h m G0 H0 G σ H S _ fun vs G1 H1 x1 r1 => hr m G1 H1 vs x1.gh r1 Q fun p xs G2 H2 x2 hp g2 h2 r2 => q p xs G2 H2 (x1.trans x2) (x1.freeB hp) g2 h2 r2
/-- a def's promise: R, what of its arguments' slots and of what is wanted of its data -/
def spR (K : PySem.W.Frag) (R : List Sl → (PyData → Prop) → Prop) : Sp := fun vs H Q _ => ∃ m G ss P, Ex G H ∧ (∀ p, m = some p → G p = none ∧ PotAt H p) ∧ ArgsOk K m G vs ss ∧ R ss P ∧ ∀ v d G2 H2, Xt m G H G2 H2 → Rp K G2 v d → P d → Q v H2
theorem Sta.potOk {m : Option Addr} {G0 H0 G H : Hp} {σ : L2.St} (S : Sta K m G0 H0 G σ H ρ) : ∀ p, m = some p → G p = none ∧ PotAt H p := fun p e => ⟨(S.pt p e).1, (S.pt p e).2.2⟩
theorem ArgOk.mono {m : Option Addr} {G G2 : Hp} {v : V} (e : Ex G G2) : ∀ {s : Sl}, ArgOk K m G v s → ArgOk K m G2 v s
  | .dat d, h => Rp.mono e h
  | .pot, h => h
  | .val _, h => h
theorem ArgsOk.mono {m : Option Addr} {G G2 : Hp} (e : Ex G G2) : ∀ {vs : List V} {ss : List Sl}, ArgsOk K m G vs ss → ArgsOk K m G2 vs ss
  | _, _, .nil => .nil
  | _, _, .cons h t => .cons (h.mono e) (t.mono e)
theorem ea_nil : EA K tNil ρ fun ss => ss = [] := fun m G0 H0 G σ H S Q q => q [] [] G H (Xt.refl S.xt.gh) .nil rfl
theorem ea_dat (h : EX K te ρ d) (hr : EA K tR ρ fun us => us = ss) : EA K (tCons te tR) ρ fun us => us = .dat d :: ss := fun m G0 H0 G σ H S Q q =>
  h m G0 H0 G σ H S _ fun v G1 H1 x1 r1 => hr m G0 H0 G1 σ H1 (S.step x1) _ fun vs us G2 H2 x2 r2 e2 => q _ _ G2 H2 (x1.trans x2) (.cons (s := .dat d) (r1.mono x2.gg) (e2 ▸ r2)) rfl
theorem ea_pot (h : ρ[i]? = some .pot) (hr : EA K tR ρ fun us => us = ss) : EA K (tCons (tVar i) tR) ρ fun us => us = .pot :: ss := fun m G0 H0 G σ H S Q q => by
  obtain ⟨p, h1, h2⟩ := S.sl i _ h
  exact ⟨.ref p, join_some h1, hr m G0 H0 G σ H S _ fun vs us G2 H2 x2 r2 e2 => q _ _ G2 H2 x2 (.cons (s := .pot) ⟨p, rfl, h2⟩ (e2 ▸ r2)) rfl⟩
theorem ea_val {v : V} (h : ρ[i]? = some (.val v)) (hr : EA K tR ρ fun us => us = ss) : EA K (tCons (tVar i) tR) ρ fun us => us = .val v :: ss := fun m G0 H0 G σ H S Q q => by
  have h1 := S.sl i _ h
  exact ⟨v, join_some h1, hr m G0 H0 G σ H S _ fun vs us G2 H2 x2 r2 e2 => q _ _ G2 H2 x2 (.cons (s := .val v) rfl (e2 ▸ r2)) rfl⟩
theorem ea_valC {v : V} (hr : EA K tR ρ fun us => us = ss) : EA K (tCons (tC v) tR) ρ fun us => us = .val v :: ss := fun m G0 H0 G σ H S Q q =>
  hr m G0 H0 G σ H S _ fun vs us G2 H2 x2 r2 e2 => q _ _ G2 H2 x2 (.cons (s := .val v) rfl (e2 ▸ r2)) rfl
/-- .. the first some data -/
theorem ea_datP {R R' : List Sl → Prop} (h : ED K te ρ P) (hr : EA K tR ρ R) (hR : ∀ d us, P d → R us → R' (.dat d :: us)) : EA K (tCons te tR) ρ R' := fun m G0 H0 G σ H S Q q =>
  h m G0 H0 G σ H S _ fun v d G1 H1 x1 r1 p1 => hr m G0 H0 G1 σ H1 (S.step x1) _ fun vs us G2 H2 x2 r2 e2 => q _ _ G2 H2 (x1.trans x2) (.cons (s := .dat d) (r1.mono x2.gg) r2) (hR d us p1 e2)
theorem ed_call {R : List Sl → (PyData → Prop) → Prop} {E : XK} {RS : List Sl → Prop} (h : EA K tA ρ RS) (hR : ∀ us, RS us → R us P) : ED K (tCall (spR K R) [] E tA) ρ P := fun m G0 H0 G σ H S Q q =>
  h m G0 H0 G σ H S _ fun vs us G1 H1 x1 r1 e1 => by
    rw [List.append_nil]
    exact ⟨m, G1, us, P, x1.gh, (S.step x1).potOk, r1, hR us e1, fun v d G2 H2 x2 r2 p2 => q v d G2 H2 (x1.trans x2) r2 p2⟩
theorem ex_call {R : List Sl → (PyData → Prop) → Prop} {E : XK} (h : EA K tA ρ fun us => us = ss) (hR : R ss fun e => e = d) : EX K (tCall (spR K R) [] E tA) ρ d := ED.ex (ed_call h fun us e => e ▸ hR)
/-! ### built-ins -/
theorem rcx_lenL : RCX K (fun xs H Q => ∃ p ys, xs = [.ref p] ∧ (SqL K H p ys ∨ SqT K H p ys) ∧ Q (.int ys.length) H) [.list ds] (.int (ds.length : Int)) := fun m G H vs e r Q q => by
  cases r with
  | cons r t =>
    cases t
    cases r with
    | lst hs ha => exact ⟨_, _, rfl, .inl (.inl (.inl (e _ _ hs))), q _ G H (Xt.refl e) (by rw [ha.len]; exact .int _)⟩
theorem rcx_lenT : RCX K (fun xs H Q => ∃ p ys, xs = [.ref p] ∧ (SqL K H p ys ∨ SqT K H p ys) ∧ Q (.int ys.length) H) [.tuple ds] (.int (ds.length : Int)) := fun m G H vs e r Q q => by
  cases r with
  | cons r t =>
    cases t
    cases r with
    | tup hs ha => exact ⟨_, _, rfl, .inr (ex_t e hs), q _ G H (Xt.refl e) (by rw [ha.len]; exact .int _)⟩
theorem rcx_abs : RCX K (fun xs H Q => ∃ i, xs = [.int i] ∧ Q (.int (if i < 0 then -i else i)) H) [.int x] (.int (if x < 0 then -x else x)) := fun m G H vs e r Q q => by
  cases r with
  | cons r t =>
    cases t
    cases r
    exact ⟨x, rfl, q _ G H (Xt.refl e) (.int _)⟩
theorem rcx_max2 : RCX K (fun xs H Q => ∃ i j, xs = [.int i, .int j] ∧ Q (.int (if j > i then j else i)) H) [.int x, .int y] (.int (if y > x then y else x)) := fun m G H vs e r Q q => by
  cases r with
  | cons r t =>
    cases t with
    | cons r2 t =>
      cases t
      cases r
      cases r2
      exact ⟨x, y, rfl, q _ G H (Xt.refl e) (.int _)⟩
theorem rcx_min2 : RCX K (fun xs H Q => ∃ i j, xs = [.int i, .int j] ∧ Q (.int (if j < i then j else i)) H) [.int x, .int y] (.int (if y < x then y else x)) := fun m G H vs e r Q q => by
  cases r with
  | cons r t =>
    cases t with
    | cons r2 t =>
      cases t
      cases r
      cases r2
      exact ⟨x, y, rfl, q _ G H (Xt.refl e) (.int _)⟩
theorem rcx_int1 : RCX K (fun xs H Q => (∃ i, xs = [.int i] ∧ Q (.int i) H) ∨ ∃ k, xs = [.bl k] ∧ Q (.int (if k then 1 else 0)) H) [.int x] (.int x) := fun m G H vs e r Q q => by
  cases r with
  | cons r t =>
    cases t
    cases r
    exact .inl ⟨x, rfl, q _ G H (Xt.refl e) (.int _)⟩
theorem rcx_sum {ns : List Int} : RCX K (rSum K) [.list (ns.map PyData.int)] (.int ns.sum) := fun m G H vs e r Q q => by
  cases r with
  | cons r t =>
    cases t
    cases r with
    | lst hs ha => exact ⟨_, ns, rfl, by rw [← ha.ints]; exact .inl (.inl (e _ _ hs)), q _ G H (Xt.refl e) (.int _)⟩
theorem rcx_any {bs : List Bool} : RCX K (rAny K) [.list (bs.map PyData.bool)] (.bool (bs.any id)) := fun m G H vs e r Q q => by
  cases r with
  | cons r t =>
    cases t
    cases r with
    | lst hs ha => exact ⟨_, bs, rfl, by rw [← ha.bools]; exact .inl (.inl (e _ _ hs)), q _ G H (Xt.refl e) (.bl _)⟩
theorem rcx_all {bs : List Bool} : RCX K (rAll K) [.list (bs.map PyData.bool)] (.bool (bs.all id)) := fun m G H vs e r Q q => by
  cases r with
  | cons r t =>
    cases t
    cases r with
    | lst hs ha => exact ⟨_, bs, rfl, by rw [← ha.bools]; exact .inl (.inl (e _ _ hs)), q _ G H (Xt.refl e) (.bl _)⟩
theorem rcl_listL : RCL K (fun xs H Q => ∃ p ys, xs = [.ref p] ∧ (SqL K H p ys ∨ SqT K H p ys) ∧ ∀ l, H l = none → Q (.ref l) (upd H l (.lst ys))) [.list ds] ds := fun m G H vs e r Q q => by
  cases r with
  | cons r t =>
    cases t
    cases r with
    | lst hs ha => exact ⟨_, _, rfl, .inl (.inl (.inl (e _ _ hs))), fun l hl => q l _ G _ (Xt.new0 e hl) hl (fresh_back e hl) upd_same ha⟩
theorem rcl_listT : RCL K (fun xs H Q => ∃ p ys, xs = [.ref p] ∧ (SqL K H p ys ∨ SqT K H p ys) ∧ ∀ l, H l = none → Q (.ref l) (upd H l (.lst ys))) [.tuple ds] ds := fun m G H vs e r Q q => by
  cases r with
  | cons r t =>
    cases t
    cases r with
    | tup hs ha => exact ⟨_, _, rfl, .inr (ex_t e hs), fun l hl => q l _ G _ (Xt.new0 e hl) hl (fresh_back e hl) upd_same ha⟩
theorem rcx_tupL : RCX K (fun xs H Q => ∃ p ys, xs = [.ref p] ∧ ((SqL K H p ys ∧ ∀ l, H l = none → Q (.ref l) (upd H l (.tup ys))) ∨ (SqT K H p ys ∧ Q (.ref p) H))) [.list ds] (.tuple ds) := fun m G H vs e r Q q => by
  cases r with
  | cons r t =>
    cases t
    cases r with
    | lst hs ha => exact ⟨_, _, rfl, .inl ⟨.inl (.inl (e _ _ hs)), fun l hl => q _ _ _ (Xt.new e hl) (.tup (.inl (.inl upd_same)) (ha.mono (Ex.new (fresh_back e hl))))⟩⟩
theorem rcx_tupT : RCX K (fun xs H Q => ∃ p ys, xs = [.ref p] ∧ ((SqL K H p ys ∧ ∀ l, H l = none → Q (.ref l) (upd H l (.tup ys))) ∨ (SqT K H p ys ∧ Q (.ref p) H))) [.tuple ds] (.tuple ds) := fun m G H vs e r Q q => by
  cases r with
  | cons r t =>
    cases t
    cases r with
    | tup hs ha => exact ⟨_, _, rfl, .inr ⟨ex_t e hs, q _ G H (Xt.refl e) (.tup hs ha)⟩⟩
/-! ### sorted -/
def ins (x : Int) : List Int → List Int
  | [] => [x]
  | y :: ys => if x ≤ y then x :: y :: ys else y :: ins x ys
def isort : List Int → List Int
  | [] => []
  | x :: xs => ins x (isort xs)
theorem ins_perm (x : Int) : ∀ l : List Int, (ins x l).Perm (x :: l)
  | [] => .refl _
  | y :: ys => by
    unfold ins
    split
    · exact .refl _
    · exact ((ins_perm x ys).cons y).trans (.swap x y ys)
theorem isort_perm : ∀ l : List Int, (isort l).Perm l
  | [] => .refl _
  | x :: xs => (ins_perm x _).trans ((isort_perm xs).cons x)
theorem ins_sorted (x : Int) : ∀ {l : List Int}, l.Pairwise (· ≤ ·) → (ins x l).Pairwise (· ≤ ·)
  | [], _ => List.pairwise_singleton _ _
  | y :: ys, h => by
    unfold ins
    have h1 := List.pairwise_cons.mp h
    split
    · refine List.pairwise_cons.mpr ⟨fun z hz => ?_, h⟩
      rcases List.mem_cons.mp hz with e | hz
      · omega
      · have := h1.1 z hz
        omega
    · refine List.pairwise_cons.mpr ⟨fun z hz => ?_, ins_sorted x h1.2⟩
      rcases List.mem_cons.mp ((ins_perm x ys).mem_iff.mp hz) with e | hz
      · omega
      · exact h1.1 z hz
theorem isort_sorted : ∀ l : List Int, (isort l).Pairwise (· ≤ ·)
  | [] => .nil
  | x :: xs => ins_sorted x (isort_sorted xs)
theorem sorted_one {a b : List Int} (p : a.Perm b) (ha : a.Pairwise (· ≤ ·)) (hb : b.Pairwise (· ≤ ·)) : a = b := p.eq_of_pairwise (fun x y _ _ h1 h2 => Int.le_antisymm h1 h2) ha hb
theorem rcl_sorted {ns : List Int} (hz : ns.length < 64) : RCL K (rSorted K) [.list (ns.map PyData.int)] ((isort ns).map PyData.int) := fun m G H vs e r Q q => by
  cases r with
  | cons r t =>
    cases t
    cases r with
    | lst hs ha =>
      refine ⟨_, ns, rfl, by rw [← ha.ints]; exact .inl (.inl (e _ _ hs)), hz, fun ns' p hp hs' np => ?_⟩
      have en : ns' = isort ns := sorted_one (hp.trans (isort_perm ns).symm) hs' (isort_sorted ns)
      subst en
      exact q p _ G _ (Xt.new0 e np) np (fresh_back e np) upd_same (RpAll.ofInts _)
/-! ### slices -/
theorem cut_rp {G : Hp} {vs : List V} {lo hi : Option Int} (r : RpAll K G vs ds) : RpAll K G (cutV vs lo hi) ((ds.drop (HT.sIx ds.length 0 lo)).take (HT.sIx ds.length ds.length hi - HT.sIx ds.length 0 lo)) := by
  unfold cutV
  rw [r.len]
  exact (r.drop _).take _
def EO (K : PySem.W.Frag) (to : TO) (ρ : Rho) (o : Option Int) : Prop := ∀ m G0 H0 G σ H, Sta K m G0 H0 G σ H ρ → ∀ Q : Option Int → Hp → Prop, (∀ G2 H2, Xt m G H G2 H2 → Q o H2) → to σ H Q
theorem eo_none : EO K tNoPart ρ none := fun m G0 H0 G σ H S Q q => q G H (Xt.refl S.xt.gh)
theorem eo_some (h : EX K te ρ (.int x)) : EO K (tPart te) ρ (some x) := fun m G0 H0 G σ H S Q q => h m G0 H0 G σ H S _ fun v G1 H1 x1 r1 => by
  cases r1
  exact ⟨x, rfl, q G1 H1 x1⟩
theorem ex_slT {lo hi : Option Int} (h : EX K te ρ (.tuple ds)) (h1 : EO K tl ρ lo) (h2 : EO K th ρ hi) : EX K (tSl (rSlA K) te tl th) ρ (.tuple ((ds.drop (HT.sIx ds.length 0 lo)).take (HT.sIx ds.length ds.length hi - HT.sIx ds.length 0 lo))) := fun m G0 H0 G σ H S Q q =>
  h m G0 H0 G σ H S _ fun v G1 H1 x1 r1 => h1 m G0 H0 G1 σ H1 (S.step x1) _ fun G2 H2 x2 => h2 m G0 H0 G2 σ H2 ((S.step x1).step x2) _ fun G3 H3 x3 => by
    have x := (x1.trans x2).trans x3
    have r3 := r1.mono (x2.gg.trans x3.gg)
    cases r3 with
    | tup hs ha =>
      refine ⟨_, _, rfl, ex_t x3.gh hs, fun hw => ?_, fun _ p hp => ?_⟩
      · refine q _ G3 H3 x ?_
        have e : (ds.drop (HT.sIx ds.length 0 lo)).take (HT.sIx ds.length ds.length hi - HT.sIx ds.length 0 lo) = ds := by
          rw [ha.len] at hw
          rw [hw.1, hw.2, List.drop_zero, Nat.sub_zero, List.take_length]
        rw [e]
        exact .tup hs ha
      · exact q _ _ _ (x.trans (Xt.new x3.gh hp)) (.tup (.inl (.inl upd_same)) ((cut_rp ha).mono (Ex.new (fresh_back x3.gh hp))))
theorem el_slL {lo hi : Option Int} (h : EX K te ρ (.list ds)) (h1 : EO K tl ρ lo) (h2 : EO K th ρ hi) : EL K (tSl (rSlL K) te tl th) ρ ((ds.drop (HT.sIx ds.length 0 lo)).take (HT.sIx ds.length ds.length hi - HT.sIx ds.length 0 lo)) := fun m G0 H0 G σ H S Q q =>
  h m G0 H0 G σ H S _ fun v G1 H1 x1 r1 => h1 m G0 H0 G1 σ H1 (S.step x1) _ fun G2 H2 x2 => h2 m G0 H0 G2 σ H2 ((S.step x1).step x2) _ fun G3 H3 x3 => by
    have x := (x1.trans x2).trans x3
    have r3 := r1.mono (x2.gg.trans x3.gg)
    cases r3 with
    | lst hs ha => exact ⟨_, _, rfl, .inl (.inl (x3.gh _ _ hs)), fun p hp => q p _ G3 _ (x.trans (Xt.new0 x3.gh hp)) (x.freeB hp) (fresh_back x3.gh hp) upd_same (cut_rp ha)⟩
/-! ### what is walked -/
theorem iw_list (h : EX K te ρ (.list ds)) : IW K (iList K te) ρ fun es => es = ds := fun m G0 H0 G σ H S R q => h m G0 H0 G σ H S _ fun v G1 H1 x1 r1 => by
  cases r1 with
  | @lst a xs _ hs ha =>
    refine ⟨a, rfl, ⟨xs, .inl (.inl (x1.gh _ _ hs))⟩, q _ ds G1 H1 x1 (fun m' G' H' e1 e2 => ⟨fun i d hd => ?_, ?_⟩) rfl⟩
    · obtain ⟨v, h1, h2⟩ := ha.get hd
      have hq : SqL K H' a xs := .inl (.inl (e2 _ _ (e1 _ _ hs)))
      refine ⟨⟨xs, v, hq, h1⟩, fun x H'' y => ?_⟩
      obtain ⟨e, y⟩ := y
      subst e
      have ev := (y xs hq).symm.trans h1
      cases ev
      exact ⟨G', Xt.refl e2, h2.mono e1⟩
    · exact ⟨xs, .inl (.inl (e2 _ _ (e1 _ _ hs))), by rw [ha.len]; exact Nat.le_refl _⟩
theorem iw_tup (h : EX K te ρ (.tuple ds)) : IW K (iTup K te) ρ fun es => es = ds := fun m G0 H0 G σ H S R q => h m G0 H0 G σ H S _ fun v G1 H1 x1 r1 => by
  cases r1 with
  | @tup a xs _ hs ha =>
    refine ⟨a, rfl, ⟨xs, ex_t x1.gh hs⟩, q _ ds G1 H1 x1 (fun m' G' H' e1 e2 => ⟨fun i d hd => ?_, ?_⟩) rfl⟩
    · obtain ⟨v, h1, h2⟩ := ha.get hd
      have hq : SqT K H' a xs := ex_t (e1.trans e2) hs
      refine ⟨⟨xs, v, hq, h1⟩, fun x H'' y => ?_⟩
      obtain ⟨e, y⟩ := y
      subst e
      have ev := (y xs hq).symm.trans h1
      cases ev
      exact ⟨G', Xt.refl e2, h2.mono e1⟩
    · exact ⟨xs, ex_t (e1.trans e2) hs, by rw [ha.len]; exact Nat.le_refl _⟩
def rngD (lo : Int) (n : Nat) : List PyData := (List.range n).map fun (i : Nat) => PyData.int (lo + (i : Int))
theorem walks_rng {m : Option Addr} {G : Hp} {lo : Int} {n : Nat} : Walks K m (Itr lo n) G (rngD lo n) := fun G' H' e1 e2 => by
  refine ⟨fun i d hd => ?_, ?_⟩
  · unfold rngD at hd
    rw [List.getElem?_map] at hd
    obtain ⟨j, hj, rfl⟩ := Option.map_eq_some_iff.mp hd
    obtain ⟨hl, ej⟩ := List.getElem?_eq_some_iff.mp hj
    rw [List.getElem_range] at ej
    subst ej
    rw [List.length_range] at hl
    refine ⟨hl, fun x H'' y => ?_⟩
    obtain ⟨e, y⟩ := y
    subst e y
    exact ⟨G', Xt.refl e2, .int _⟩
  · unfold rngD
    rw [List.length_map, List.length_range]
    exact Nat.le_refl _
theorem iw_rng1 {n : Int} (h : EAX K tA ρ [.int n]) (hn : n ≤ 100000 ∧ -100000 ≤ n) : IW K (iRng1 tA) ρ fun es => es = rngD 0 n.toNat := fun m G0 H0 G σ H S R q => h m G0 H0 G σ H S _ fun vs G1 H1 x1 r1 => by
  cases r1 with
  | cons r t =>
    cases t
    cases r
    exact ⟨n, rfl, by omega, by omega, q _ _ G1 H1 x1 (fun m' => walks_rng) rfl⟩
theorem iw_rng2 {lo n : Int} (h : EAX K tA ρ [.int lo, .int n]) (hn : (n ≤ 100000 ∧ -100000 ≤ n) ∧ (lo ≤ 100000 ∧ -100000 ≤ lo)) : IW K (iRng2 tA) ρ fun es => es = rngD lo (n - lo).toNat := fun m G0 H0 G σ H S R q => h m G0 H0 G σ H S _ fun vs G1 H1 x1 r1 => by
  cases r1 with
  | cons r t =>
    cases t with
    | cons r2 t =>
      cases t
      cases r
      cases r2
      exact ⟨lo, n, rfl, ⟨by omega, by omega, by omega, by omega⟩, q _ _ G1 H1 x1 (fun m' => walks_rng) rfl⟩
/-- range(e), e some number -/
theorem iw_rng1P (h : ED K te ρ fun d => ∃ n : Nat, d = .int (n : Int) ∧ n ≤ 1000) : IW K (iRng1 (tCons te tNil)) ρ fun es => ∃ n : Nat, n ≤ 1000 ∧ es = rngD 0 n := fun m G0 H0 G σ H S R q => h m G0 H0 G σ H S _ fun v d G1 H1 x1 r1 p => by
  obtain ⟨n, rfl, hn⟩ := p
  cases r1
  exact ⟨(n : Int), rfl, by omega, by omega, q _ _ G1 H1 x1 (fun m' => walks_rng) ⟨n, hn, by rw [Int.toNat_natCast]⟩⟩
theorem xt_pair {m : Option Addr} {G H : Hp} {T : Addr} {x y : V} (e : Ex G H) (hT : H T = none) (h1 : Rp K G x d) (h2 : Rp K G y z) : ∃ G2, Xt m G H G2 (upd H T (.tup [x, y])) ∧ Rp K G2 (.ref T) (.tuple [d, z]) :=
  ⟨_, Xt.new e hT, .tup (.inl (.inl upd_same)) (.cons (h1.mono (Ex.new (fresh_back e hT))) (.cons (h2.mono (Ex.new (fresh_back e hT))) .nil))⟩
theorem iw_zip (h : EAX K tA ρ [.list ds, .list es]) : IW K (iZip K tA) ρ fun us => us = (ds.zip es).map fun p => .tuple [p.1, p.2] := fun m G0 H0 G σ H S R q => h m G0 H0 G σ H S _ fun vs G1 H1 x1 r1 => by
  cases r1 with
  | cons r t =>
    cases t with
    | cons r2 t =>
      cases t
      cases r with
      | @lst a xs _ hs ha =>
        cases r2 with
        | @lst b ys _ ht hb =>
          refine ⟨a, b, xs, ys, rfl, .inl (.inl (x1.gh _ _ hs)), .inl (.inl (x1.gh _ _ ht)), q _ _ G1 H1 x1 (fun m' G' H' e1 e2 => ?_) rfl⟩
          have hx : SqL K H' a xs := .inl (.inl (e2 _ _ (e1 _ _ hs)))
          have hy : SqL K H' b ys := .inl (.inl (e2 _ _ (e1 _ _ ht)))
          refine ⟨fun i d hd => ?_, ⟨xs, ys, hx, hy, ?_⟩⟩
          · rw [List.getElem?_map] at hd
            obtain ⟨p, hp, rfl⟩ := Option.map_eq_some_iff.mp hd
            obtain ⟨k1, k2⟩ := List.getElem?_zip_eq_some.mp hp
            obtain ⟨u, u1, u2⟩ := ha.get k1
            obtain ⟨w, w1, w2⟩ := hb.get k2
            refine ⟨⟨xs, ys, u, w, hx, hy, u1, w1⟩, fun x H'' y => ?_⟩
            obtain ⟨T, x', y', rfl, hT, rfl, f1, f2⟩ := y
            have ex := (f1 xs hx).symm.trans u1
            have ey := (f2 ys hy).symm.trans w1
            cases ex
            cases ey
            exact xt_pair e2 hT (u2.mono e1) (w2.mono e1)
          · rw [List.length_map, List.length_zip, ha.len, hb.len]
            omega
theorem iw_enum (h : EAX K tA ρ [.list ds]) : IW K (iEnum K tA) ρ fun us => us = ds.mapIdx fun i d => .tuple [.int (i : Int), d] := fun m G0 H0 G σ H S R q => h m G0 H0 G σ H S _ fun vs G1 H1 x1 r1 => by
  cases r1 with
  | cons r t =>
    cases t
    cases r with
    | @lst a xs _ hs ha =>
      refine ⟨a, xs, rfl, .inl (.inl (x1.gh _ _ hs)), q _ _ G1 H1 x1 (fun m' G' H' e1 e2 => ?_) rfl⟩
      have hx : SqL K H' a xs := .inl (.inl (e2 _ _ (e1 _ _ hs)))
      refine ⟨fun i d hd => ?_, ⟨xs, hx, ?_⟩⟩
      · rw [List.getElem?_mapIdx] at hd
        obtain ⟨p, hp, rfl⟩ := Option.map_eq_some_iff.mp hd
        obtain ⟨u, u1, u2⟩ := ha.get hp
        refine ⟨⟨xs, u, hx, u1⟩, fun x H'' y => ?_⟩
        obtain ⟨T, x', rfl, hT, rfl, f1⟩ := y
        have ex := (f1 xs hx).symm.trans u1
        cases ex
        exact xt_pair e2 hT (.int _) (u2.mono e1)
      · rw [List.length_mapIdx, ha.len]
        exact Nat.le_refl _
/-! ### list comprehensions -/
theorem wipe_wipe {σ : L2.St} : ∀ {us vs : List Nat}, (∀ i ∈ us, i ∈ vs) → wipe (wipe σ us) vs = wipe σ vs
  | [], _, _ => rfl
  | u :: us, vs, h => by
    show wipe ((wipe σ us).set u none) vs = wipe σ vs
    rw [wipe_set (h u List.mem_cons_self), wipe_wipe fun i hi => h i (List.mem_cons_of_mem _ hi)]
theorem el_lc {α : Type} {wi : TI} {g : TG} {vs : List Nat} (xs : List α) (inj : α → PyData) (f : α → Bool) (v : α → PyData) (js : List Nat) (hw : IW K wi ρ fun us => us = xs.map inj) (hj : ∀ j ∈ js, j ∈ vs) (hz : xs.length ≤ 40000)
    (ht : ∀ x ∈ xs, ∃ ρ', GD K g (inj x) (wipeR ρ vs) ρ' js ∧ ET K tt ρ' (f x) ∧ (f x = true → EX K te ρ' (v x))) : EL K (tLc wi g tt te vs) ρ ((xs.filter f).map v) := fun m G0 H0 G σ H S Q q =>
  hw m G0 H0 G σ H S _ fun J us G1 H1 x1 wk eu => by
    subst eu
    intro D hD
    have S1 := S.step x1
    refine ⟨fun i n H' => n = xs.length - i ∧ i ≤ xs.length ∧ ∃ G' acc, Xt m G1 H1 G' H' ∧ G' D = none ∧ H' D = some (.lst acc) ∧ RpAll K G' acc (((xs.take i).filter f).map v), ⟨xs.length, rfl, Nat.zero_le _, G1, [], Xt.new0 x1.gh hD, fresh_back x1.gh hD, upd_same, .nil⟩, ?_⟩
    rintro i n H' ⟨rfl, hi, G', acc, x', gD, hacc, ra⟩
    obtain ⟨w1, w2⟩ := wk m G' H' x'.gg x'.gh
    by_cases hlt : i < xs.length
    · have hg : (xs.map inj)[i]? = some (inj xs[i]) := by rw [List.getElem?_map, List.getElem?_eq_getElem hlt]; rfl
      obtain ⟨go, yl⟩ := w1 i _ hg
      refine .inr ⟨go, fun H2 => ∃ G2 acc, Xt m G1 H1 G2 H2 ∧ G2 D = none ∧ H2 D = some (.lst acc) ∧ RpAll K G2 acc (((xs.take (i + 1)).filter f).map v), fun H2 ⟨G2, acc, a1, a2, a3, a4⟩ => ⟨xs.length - (i + 1), by omega, rfl, hlt, G2, acc, a1, a2, a3, a4⟩, fun x H2 y => ?_⟩
      obtain ⟨G2, x2, r2⟩ := yl x H2 y
      obtain ⟨ρ', gd, et, ee⟩ := ht xs[i] (List.getElem_mem hlt)
      have S2 := ((S1.step x').step x2).wiped vs
      have pD : m ≠ some D := fun z => S1.potH D z hD
      refine gd m G0 H0 G2 _ H2 x S2 r2 _ fun σ3 S3 wq => ⟨by rw [wq vs hj, wipe_wipe fun _ h => h], ?_⟩
      refine et m G0 H0 G2 σ3 H2 S3 _ fun G4 H4 x4 => ?_
      have tk : xs.take (i + 1) = xs.take i ++ [xs[i]] := (List.take_append_getElem hlt).symm
      have x24 := (x'.trans x2).trans x4
      have gD4 : G4 D = none := x4.fr D (x2.fr D gD (by rw [hacc]; rfl)) (x2.nt D (by rw [hacc]; rfl))
      cases hf : f xs[i] with
      | true =>
        show te σ3 H4 _
        refine ee hf m G0 H0 G4 σ3 H4 (S3.step x4) _ fun yv G5 H5 x5 r5 => ?_
        have hD5 : H5 D = some (.lst acc) := x5.hh D _ pD (x4.hh D _ pD (x2.hh D _ pD hacc))
        have gD5 : G5 D = none := x5.fr D gD4 (x4.nt D (x2.nt D (by rw [hacc]; rfl)))
        refine ⟨acc, hD5, sz_lt ?_, G5, _, (x24.trans x5).mut hD gD5 S1.potH, gD5, upd_same, ?_⟩
        · rw [ra.len, List.length_map]
          have h1 := List.length_filter_le f (xs.take i)
          have h2 : (xs.take i).length ≤ i := by rw [List.length_take]; omega
          omega
        · rw [tk, List.filter_append, List.map_append, List.filter_cons, if_pos hf]
          exact (ra.mono ((x2.gg.trans x4.gg).trans x5.gg)).app (.one r5)
      | false =>
        show ∃ G2 acc, _
        refine ⟨G4, acc, x24, gD4, x4.hh D _ pD (x2.hh D _ pD hacc), ?_⟩
        rw [tk, List.filter_append, List.map_append, List.filter_cons, if_neg (by rw [hf]; decide)]
        show RpAll K G4 acc (_ ++ [])
        rw [List.append_nil]
        exact ra.mono (x2.gg.trans x4.gg)
    · have ei : i = xs.length := by omega
      subst ei
      rw [List.take_length] at ra
      rw [List.length_map] at w2
      exact .inl ⟨w2, q D acc G' H' (x1.trans x') (x1.freeB hD) gD hacc ra⟩
end
end Kd

/-! Kd, part D: rules that the layer lacks: least and greatest of a tuple, sorted of a tuple, a tuple backwards, longer chains. -/
namespace Kd
open PySem PySem.Spec PyProof.Rows L2 Evl

section
variable {X : Cx} {K : PySem.W.Frag}
/-! ### min, max of a tuple of ints -/
theorem reads_ints {h : Heap} : ∀ {us : List Value} {ns : List Int}, IntsAre us ns → ReadsAll h us (ns.map PyData.int) []
  | _, _, .nil => .nil
  | _, _, .cons k t r => .cons (as := []) (.int k t) (reads_ints r)
theorem alike_ints' (ns : List Int) : PySem.W.AlikeAll (ns.map PyData.int) := by
  refine ⟨fun x hx y hy => ?_, fun x hx => ?_⟩
  · obtain ⟨a, _, rfl⟩ := List.mem_map.mp hx
    obtain ⟨b, _, rfl⟩ := List.mem_map.mp hy
    simp [PySem.W.alike]
  · obtain ⟨a, _, rfl⟩ := List.mem_map.mp hx
    exact fun z => nomatch z
def rMinT (K : PySem.W.Frag) : List V → Hp → VK → Prop := fun vs H Q => ∃ (a : Addr) (n : Int) (ns : List Int), vs = [V.ref a] ∧ SqT K H a ((n :: ns).map V.int) ∧ Q (.int (ns.foldl min n)) H
def rMaxT (K : PySem.W.Frag) : List V → Hp → VK → Prop := fun vs H Q => ∃ (a : Addr) (n : Int) (ns : List Int), vs = [V.ref a] ∧ SqT K H a ((n :: ns).map V.int) ∧ Q (.int (ns.foldl max n)) H
theorem cr_minT (hc : X.calm = true) (hu : X.A.units + 64 < cLine) : CallR X (.builtin "min") (rMinT X.K) := by
  intro pins s σ H vs us Q I r h
  obtain ⟨a, n, ns, rfl, hs, q⟩ := h
  obtain ⟨its, rv, ht, _⟩ := I.tuple hs
  rw [Vals.ref1 r]
  refine PySem.W.min_tuple_data (x := .int n) (xs := ns.map PyData.int) (I.ok.hd hc) ht (reads_ints (ns := n :: ns) rv.ints) (alike_ints' (n :: ns)) ?_ fun i v h' tk bs _ rd hk => ?_
  · have e : PyData.depthAll ((n :: ns).map PyData.int) = 0 := PyProof.Rows.depthAll_ints (n :: ns)
    show X.A.units + 1 + PyData.depthAll ((n :: ns).map PyData.int) < cLine
    rw [e]
    omega
  · rw [PySem.W.minD_ints] at rd
    cases rd with
    | int _ t => exact ⟨.int _, H, I.kept hk, ⟨_, rfl⟩, q⟩
theorem cr_maxT (hc : X.calm = true) (hu : X.A.units + 64 < cLine) : CallR X (.builtin "max") (rMaxT X.K) := by
  intro pins s σ H vs us Q I r h
  obtain ⟨a, n, ns, rfl, hs, q⟩ := h
  obtain ⟨its, rv, ht, _⟩ := I.tuple hs
  rw [Vals.ref1 r]
  refine PySem.W.max_tuple_data (x := .int n) (xs := ns.map PyData.int) (I.ok.hd hc) ht (reads_ints (ns := n :: ns) rv.ints) (alike_ints' (n :: ns)) ?_ fun i v h' tk bs _ rd hk => ?_
  · have e : PyData.depthAll ((n :: ns).map PyData.int) = 0 := PyProof.Rows.depthAll_ints (n :: ns)
    show X.A.units + 1 + PyData.depthAll ((n :: ns).map PyData.int) < cLine
    rw [e]
    omega
  · rw [PySem.W.maxD_ints] at rd
    cases rd with
    | int _ t => exact ⟨.int _, H, I.kept hk, ⟨_, rfl⟩, q⟩
theorem rcx_minT {n : Int} {ns : List Int} : RCX K (rMinT K) [.tuple ((n :: ns).map PyData.int)] (.int (ns.foldl min n)) := fun m G H vs e r Q q => by
  cases r with
  | cons r t =>
    cases t
    cases r with
    | tup hs ha => exact ⟨_, n, ns, rfl, by rw [← ha.ints]; exact ex_t e hs, q _ G H (Xt.refl e) (.int _)⟩
theorem rcx_maxT {n : Int} {ns : List Int} : RCX K (rMaxT K) [.tuple ((n :: ns).map PyData.int)] (.int (ns.foldl max n)) := fun m G H vs e r Q q => by
  cases r with
  | cons r t =>
    cases t
    cases r with
    | tup hs ha => exact ⟨_, n, ns, rfl, by rw [← ha.ints]; exact ex_t e hs, q _ G H (Xt.refl e) (.int _)⟩
/-! ### sorted of a tuple of ints -/
def rSortedTup (K : PySem.W.Frag) : List V → Hp → VK → Prop := fun vs H Q => ∃ (a : Addr) (ns : List Int), vs = [V.ref a] ∧ SqT K H a (ns.map V.int) ∧ ns.length < 64 ∧
  ∀ (ns' : List Int) (p : Addr), ns'.Perm ns → ns'.Pairwise (· ≤ ·) → H p = none → Q (.ref p) (upd H p (.lst (ns'.map V.int)))
theorem cr_sortedTup : CallR X (.builtin "sorted") (rSortedTup X.K) := by
  intro pins s σ H vs us Q I r h
  obtain ⟨a, ns, rfl, hs, h64, q⟩ := h
  obtain ⟨its, rv, ⟨o, ho, hc, n0, hd⟩, _⟩ := I.tuple hs
  rw [Vals.ref1 r]
  have hi := rv.ints
  have hl : its.length = ns.length := hi.length
  refine Calls.call_function_entry PyProof.Rows.kind_sorted PyProof.Rows.plain_sorted PyProof.Rows.entry_sorted (PyProof.Rows.args_sorted1 _) ?_
  unfold Builtin.«sorted»
  refine wpAny_bind (m := checkCount "sorted" 1 1 _) (wpAny_pure ?_)
  refine wpAny_bind (PySem.wpAny_collect_seq a (.inr rfl) ho hc hd (fun h' hk => ?_) (by rw [List.size_toArray, hl, sizeLine_eq]; omega))
  have I1 : Inv X pins σ H { s with heap := h' } := I.kept (t' := s.toks) hk
  show wpAny _ _ (newList its.toArray.toList >>= _) _ _ _
  rw [List.toList_toArray]
  refine wpAny_bind (wpAny_newList ?_ (by rw [hl, sizeLine_eq]; omega))
  have hoL : (h'.push (seqObj "list" its.toArray 0)).get? h'.objs.size = some (seqObj "list" its.toArray 0) := Heap.get?_push_size _ rfl
  show wpAny _ _ _ _ _ { s with heap := h'.push (seqObj "list" its.toArray 0) }
  refine wpAny_bind (wpAny_holding (wpAny_call_entry PyProof.Rows.slot_list_sort ⟨_, hoL, rfl⟩ PyProof.Rows.entry_list_sort
    (PyProof.Rows.list_sort_tree (s := { s with heap := h'.push (seqObj "list" its.toArray 0) }) hoL hi (by rw [hl]; exact h64) fun out ys g1 g2 g3 => ⟨_, rfl, ?_⟩) (PyProof.Rows.args_list_sort _)))
  obtain ⟨e', he'⟩ := PyProof.Rows.sortedHeap_at (vs := its) (out := out) hoL
  have hlen : (ys.map V.int).length ≤ sizeLine := by
    rw [List.length_map, g2.length_eq]
    exact Nat.le_trans (Nat.le_of_lt h64) (by decide)
  refine wpAny_pure ⟨_, rfl, .ref h'.objs.size, upd H h'.objs.size (.lst (ys.map V.int)), I1.laid (t' := s.toks) (fun b u e => ?_) (Nat.le_refl _)
    (show ObjOk X.prog X.w _ _ _ (.lst (ys.map V.int)) from ⟨hlen, out.toList, e', vals_of_ints g1, by rw [Array.toArray_toList]; exact he'⟩), rfl, q ys _ g2 g3 (I1.hok.fresh (Nat.le_refl _))⟩
  have hb : b < h'.objs.size := Heap.lt_size e
  rw [PyProof.Rows.sortedHeap_old (Nat.ne_of_lt hb) (by rw [size_push']; exact Nat.lt_succ_of_lt hb)]
  exact Heap.get?_push_of_some _ e
theorem rcl_sortedTup {ns : List Int} (hz : ns.length < 64) : RCL K (rSortedTup K) [.tuple (ns.map PyData.int)] ((isort ns).map PyData.int) := fun m G H vs e r Q q => by
  cases r with
  | cons r t =>
    cases t
    cases r with
    | tup hs ha =>
      refine ⟨_, ns, rfl, by rw [← ha.ints]; exact ex_t e hs, hz, fun ns' p hp hs' np => ?_⟩
      have en : ns' = isort ns := sorted_one (hp.trans (isort_perm ns).symm) hs' (isort_sorted ns)
      subst en
      exact q p _ G _ (Xt.new0 e np) np (fresh_back e np) upd_same (RpAll.ofInts _)
/-- sorted(e), e a list or a tuple of ints -/
def rSortedAny (K : PySem.W.Frag) : List V → Hp → VK → Prop := fun vs H Q => rSorted K vs H Q ∨ rSortedTup K vs H Q
theorem cr_sortedAny : CallR X (.builtin "sorted") (rSortedAny X.K) := by
  intro pins s σ H vs us Q I r h
  rcases h with h | h
  · exact cr_sorted pins s σ H vs us Q I r h
  · exact cr_sortedTup pins s σ H vs us Q I r h
/-! ### t[::-1] -/
theorem adjust_rev (n : Nat) : Builtin.Slice.sliceAdjust none none (-1) (n : Int) = ((n : Int) - 1, -1) := by
  unfold Builtin.Slice.sliceAdjust
  have h : (-1 : Int) < 0 := by omega
  simp only [h, if_true]
theorem places_rev (n : Nat) : Builtin.Slice.slicePlaces ((n : Int) - 1) (-1) (-1) = n := by
  unfold Builtin.Slice.slicePlaces
  have h : ¬ (-1 : Int) > 0 := by omega
  simp only [h, if_false]
  by_cases e : (n : Int) - 1 > -1
  · rw [if_pos e]
    have e2 : ((n : Int) - 1 - -1 - 1) / (- -1) = (n : Int) - 1 := by
      rw [Int.neg_neg, Int.ediv_one]
      omega
    rw [e2]
    omega
  · rw [if_neg e]
    omega
theorem fmap_congr {α β : Type} {f g : α → Option β} : ∀ {l : List α}, (∀ a ∈ l, f a = g a) → l.filterMap f = l.filterMap g
  | [], _ => rfl
  | a :: l, h => by
    rw [List.filterMap_cons, List.filterMap_cons, h a List.mem_cons_self, fmap_congr fun b hb => h b (List.mem_cons_of_mem _ hb)]
theorem rev_pick : ∀ (xs : List Value), (List.range xs.length).filterMap (fun (k : Nat) => xs.toArray[(((xs.length : Nat) : Int) - 1 + (k : Int) * (-1)).toNat]?) = xs.reverse := fun xs => by
  have e : ∀ k ∈ List.range xs.length, (fun (k : Nat) => xs.toArray[(((xs.length : Nat) : Int) - 1 + (k : Int) * (-1)).toNat]?) k = xs.reverse[k]? := fun k hk => by
    have hk := List.mem_range.mp hk
    have e1 : (((xs.length : Nat) : Int) - 1 + (k : Int) * (-1)).toNat = xs.length - 1 - k := by omega
    show xs.toArray[(((xs.length : Nat) : Int) - 1 + (k : Int) * (-1)).toNat]? = _
    rw [e1, List.getElem?_toArray, List.getElem?_reverse (by omega)]
  have e2 : (List.range xs.length).filterMap (fun (k : Nat) => xs.toArray[(((xs.length : Nat) : Int) - 1 + (k : Int) * (-1)).toNat]?) = (List.range xs.length).filterMap (fun k => xs.reverse[k]?) := by
    exact fmap_congr e
  rw [e2, show xs.length = xs.reverse.length from (List.length_reverse).symm]
  generalize xs.reverse = ys
  clear e e2
  induction ys with
  | nil => rfl
  | cons y ys ih =>
    rw [List.length_cons, List.range_succ_eq_map, List.filterMap_cons, List.filterMap_map]
    show y :: List.filterMap (fun k => ys[k]?) (List.range ys.length) = y :: ys
    rw [ih]
end
end Kd

/-! Kd, part E: a tuple backwards; longer chains; zip of a list and a tuple. -/
namespace Kd
open PySem PySem.Spec PyProof.Rows L2 Evl

section
variable {prog : Program} {w : World} {A : Around} {E : Value → Shared → Prop} {s : Shared}
theorem sliceApplied_rev {sl : Addr} {n : Nat} {u : Tok} {Q : Int × Int × Nat → Shared → Prop} (hs : s.heap.IsSliceOf sl .none .none (.int (-1) u)) (h : Q ((n : Int) - 1, -1, n) s) :
    wpAny (model prog w) A (Builtin.Slice.sliceApplied (.ref sl) (pure (n : Int))) Q E s := by
  obtain ⟨os, hos, hcs, hds⟩ := id hs
  unfold Builtin.Slice.sliceApplied Builtin.Slice.sliceFields
  refine wpAny_bind (wpAny_bind (wpAny_field hos hds (x := .none) rfl (wpAny_bind (wpAny_field hos hds (x := .none) rfl (wpAny_bind (wpAny_field hos hds (x := .int (-1) u) rfl (wpAny_pure ?_)))))))
  refine wpAny_bind (slicePart_int ?_)
  show wpAny _ _ (if ((-1 : Int) == 0) = true then _ else _) _ _ s
  rw [if_neg (by decide)]
  refine wpAny_bind (slicePart_none (wpAny_bind (slicePart_none (wpAny_bind (wpAny_pure ?_)))))
  show wpAny _ _ (match Builtin.Slice.sliceAdjust none none (-1) (n : Int) with | (lo, hi) => pure (lo, (-1 : Int), Builtin.Slice.slicePlaces lo hi (-1))) _ _ s
  rw [adjust_rev n]
  show wpAny _ _ (pure ((n : Int) - 1, (-1 : Int), Builtin.Slice.slicePlaces ((n : Int) - 1) (-1) (-1))) _ _ s
  rw [places_rev n]
  exact wpAny_pure h
theorem getItem_tuple_rev {t sl : Addr} {items : List Value} {u : Tok} {Q : Value → Shared → Prop} (ht : IsTup s.heap t items.toArray) (hs : s.heap.IsSliceOf sl .none .none (.int (-1) u))
    (h : Q (.ref s.heap.objs.size) { s with heap := s.heap.push { cls := .type "tuple", data := .seq items.reverse.toArray } })
    (hsz : items.length ≤ sizeLine) : wpAny (model prog w) A (getItem (.ref t) (.ref sl)) Q E s := by
  have htake : sizeOk (.seq items.reverse.toArray) := by
    show items.reverse.toArray.size ≤ sizeLine
    rw [List.size_toArray, List.length_reverse]
    exact hsz
  obtain ⟨os, hos, hcs, hds⟩ := id hs
  have hTs : s.TypeIs (.ref sl) "slice" := ⟨os, hos, hcs⟩
  unfold getItem
  try with_reducible refine wpAny_holding ?_
  first | refine wpAny_bind (wpAny_pure ?_) | skip
  refine wpAny_bind (wpAny_sequenceKey ht.typeIs (by decide) ?_)
  refine wpAny_bind (wpAny_callSpecial?_slot (name := Str.ofString "__getitem__") ht.typeIs PyProof.Rows.slot_tuple_getitem
    (wpAny_call_entry PyProof.Rows.slot_tuple_getitem ht.typeIs entry_tuple_getitem ?_ (args_tuple_getitem _ _)))
  show wpAny _ _ (Builtin.Tuple.tupleItemsOf (.ref t) >>= _) _ _ s
  refine wpAny_bind (tupleItemsOf_ ht ?_)
  refine wpAny_bind (wpAny_typeOf hTs ?_)
  rw [if_pos (by decide)]
  refine wpAny_bind ?_
  show wpAny _ _ (Builtin.Slice.sliceApplied (.ref sl) (pure ((items.length : Nat) : Int))) _ _ s
  refine sliceApplied_rev hs ?_
  have hno : ¬ ((((items.length : Nat) : Int) - 1 == 0 && (-1 : Int) == 1 && items.length == items.toArray.size) = true) := by
    intro q
    rw [Bool.and_eq_true, Bool.and_eq_true] at q
    exact absurd (eq_of_beq q.1.2) (by decide)
  show wpAny _ _ (if ((((items.length : Nat) : Int) - 1 == 0 && (-1 : Int) == 1 && items.length == items.toArray.size) = true) then _ else _) _ _ s
  rw [if_neg hno]
  have ep : ((List.range items.length).filterMap (fun (k : Nat) => items.toArray[(((items.length : Nat) : Int) - 1 + (k : Int) * (-1)).toNat]?)).toArray = items.reverse.toArray := by rw [rev_pick]
  rw [ep]
  first
    | exact wpAny_bind (m := Builtin.Tuple.tupleExact _) (wpAny_newObj_type (wpAny_pure ⟨_, rfl, wpAny_pure h⟩) htake)
    | exact wpAny_bind (m := Builtin.Tuple.tupleExact _) (wpAny_newObj_type (wpAny_bind (wpAny_pure (wpAny_pure ⟨_, rfl, wpAny_pure h⟩))) htake)
    | exact wpAny_bind (wpAny_bind (m := Builtin.Tuple.tupleExact _) (wpAny_newObj_type (wpAny_pure (wpAny_pure ⟨_, rfl, wpAny_pure h⟩)) htake))
    | exact wpAny_bind (wpAny_bind (m := Builtin.Tuple.tupleExact _) (wpAny_newObj_type (wpAny_pure ⟨_, rfl, wpAny_pure h⟩) htake))
end
section
variable {X : Cx} {K : PySem.W.Frag}
def tRevT (K : PySem.W.Frag) (te : TE) : TE := fun σ H Q => te σ H fun x H1 => ∃ a xs, x = .ref a ∧ SqT K H1 a xs ∧ ∀ p, H1 p = none → Q (.ref p) (upd H1 p (.tup xs.reverse))
theorem pe_revT {e : Expr} {te : TE} {k : Nat} {p1 p2 p3 pos : Pos} (he : PE X e te) : PE X (.Subscript e (.Slice none none (some (.UnaryOp .USub (.Constant (.int 1) k p1) p2)) p3) pos) (tRevT X.K te) := by
  refine ⟨fun pins s σ H Q I h => ?_⟩
  refine Subscript_ (thn (he.run pins s σ H _ I h) fun v s1 ⟨x, H1, I1, r1, q1⟩ => ?_)
  obtain ⟨a, xs, ex, hx, q⟩ := q1
  subst ex
  cases r1
  have hst : PO X (some (.UnaryOp .USub (.Constant (.int 1) k p1) p2)) (tPart (tUn (rU fun i => .int (-i)) (tC (.int 1)))) := po_some (pe_un un_neg pe_int)
  refine wpAny_Slice (thn (po_none.run pins s1 σ H1 (fun o H2 => o = none ∧ H2 = H1) I1 ⟨rfl, rfl⟩) fun vl s2 ⟨l, H2, I2, pl, el, e2⟩ => ?_)
  subst el e2
  refine thn (po_none.run pins s2 σ H2 (fun o H3 => o = none ∧ H3 = H2) I2 ⟨rfl, rfl⟩) fun vu s3 ⟨u, H3, I3, pu, eu, e3⟩ => ?_
  subst eu e3
  refine thn (hst.run pins s3 σ H3 (fun o H4 => o = some (-1) ∧ H4 = H3) I3 ⟨1, rfl, -1, rfl, rfl, rfl⟩) fun vs s4 ⟨o, H4, I4, ps, eo, e4⟩ => ?_
  subst eo e4
  have I5 : Inv X pins σ H4 { s4 with heap := s4.heap.push { cls := .type "slice", data := .fields #[vl, vu, vs] } } := I4.kept (t' := s4.toks) fun b ob q => Heap.get?_push_of_some _ q
  obtain ⟨its, r, ht, hz⟩ := I5.tuple hx
  have hlen := r.length
  cases pl
  cases pu
  cases ps with
  | int _ tk =>
  show wpAny (model X.prog X.w) X.A (subscriptTail e (.Slice none none (some (.UnaryOp .USub (.Constant (.int 1) k p1) p2)) p3) (.ref a) (.ref s4.heap.objs.size)) (EP X pins σ Q) X.xe { s4 with heap := s4.heap.push { cls := .type "slice", data := .fields #[.none, .none, .int (-1) tk] } }
  refine tail_any (ops := [.ref a, .ref s4.heap.objs.size]) ht.typeIs (PyProof.Rows.slot_tuple_getitem.lookup) ?_ (by with_unfolding_all rfl)
  refine getItem_tuple_rev ht (Heap.IsSliceOf.new _ .none .none (.int (-1) tk)) ?_ (by rw [← hlen]; exact hz)
  refine ⟨.ref _, _, I5.laid (t' := s4.toks) (o := .tup xs.reverse) (fun b ob q => Heap.get?_push_of_some _ q) (Nat.le_refl _) ?_, rfl, q _ (I5.hok.fresh (Nat.le_refl _))⟩
  exact ⟨by rw [List.length_reverse]; exact hz, _, r.reverse, IsTup.new _ _⟩
variable {ρ : Rho} {te ta tb tc td tf : TE} {ds : List PyData} {d e z y x : PyData} {b c b3 b4 : Bool}
theorem ex_revT (h : EX K te ρ (.tuple ds)) : EX K (tRevT K te) ρ (.tuple ds.reverse) := fun m G0 H0 G σ H S Q q => h m G0 H0 G σ H S _ fun v G1 H1 x1 r1 => by
  cases r1 with
  | tup hs ha => exact ⟨_, _, rfl, ex_t x1.gh hs, fun p hp => q _ _ _ (x1.trans (Xt.new x1.gh hp)) (.tup (.inl (.inl upd_same)) (ha.rev.mono (Ex.new (fresh_back x1.gh hp))))⟩
theorem el_revL (h : EX K te ρ (.list ds)) : EL K (tRevL K te) ρ ds.reverse := fun m G0 H0 G σ H S Q q => h m G0 H0 G σ H S _ fun v G1 H1 x1 r1 => by
  cases r1 with
  | lst hs ha => exact ⟨_, _, rfl, .inl (.inl (x1.gh _ _ hs)), fun p hp => q p _ G1 _ (x1.trans (Xt.new0 x1.gh hp)) (x1.freeB hp) (fresh_back x1.gh hp) upd_same ha.rev⟩
/-! ### a op b op c op d op e -/
def tChain4 (r1 r2 r3 r4 : R2) (ta tb tc td te : TE) : TE := fun σ H Q => ta σ H fun x H1 => tb σ H1 fun y H2 => r1 x y H2 fun z1 H3 => ∃ k1, z1 = .bl k1 ∧
  if k1 = true then tc σ H3 fun u H4 => r2 y u H4 fun z2 H5 => ∃ k2, z2 = .bl k2 ∧
    if k2 = true then td σ H5 fun v H6 => r3 u v H6 fun z3 H7 => ∃ k3, z3 = .bl k3 ∧
      if k3 = true then te σ H7 fun w H8 => r4 v w H8 Q else Q (.bl false) H7
    else Q (.bl false) H5
  else Q (.bl false) H3
theorem pe_chain4 {a b c d e : Expr} {o1 o2 o3 o4 : CmpOp} {r1 r2 r3 r4 : R2} {pos : Pos} (h1 : OpR X (compareOp o1) r1) (h2 : OpR X (compareOp o2) r2) (h3 : OpR X (compareOp o3) r3) (h4 : OpR X (compareOp o4) r4)
    (ha : PE X a ta) (hb : PE X b tb) (hc : PE X c tc) (hd : PE X d td) (he : PE X e te) (hm : lastMarks [o1, o2, o3, o4] [b, c, d, e] = false := by with_unfolding_all rfl) :
    PE X (.Compare a [o1, o2, o3, o4] [b, c, d, e] pos) (tChain4 r1 r2 r3 r4 ta tb tc td te) := by
  refine ⟨fun pins s σ H Q I h => ?_⟩
  refine Compare_chain (thn (ha.run pins s σ H _ I h) fun va s1 ⟨x, H1, I1, q1r, q1⟩ => chain_link (thn (hb.run pins s1 σ H1 _ I1 q1) fun vb s2 ⟨y, H2, I2, q2r, q2⟩ =>
    thn (h1 pins s2 σ H2 x y va vb _ I2 q1r q2r q2) fun w1 s3 ⟨z1, H3, I3, r3', k1, e1, q3⟩ => ?_)) hm
  subst e1
  cases r3'
  refine wpAny_truthy_bool ?_
  cases k1 with
  | false => exact ite_ff ⟨.bl false, H3, I3, rfl, q3⟩
  | true =>
  refine ite_tt (chain_link (thn (hc.run pins s3 σ H3 _ I3 q3) fun vc s4 ⟨u, H4, I4, q4r, q4⟩ => thn (h2 pins s4 σ H4 y u vb vc _ I4 q2r q4r q4) fun w2 s5 ⟨z2, H5, I5, r5', k2, e2, q5⟩ => ?_))
  subst e2
  cases r5'
  refine wpAny_truthy_bool ?_
  cases k2 with
  | false => exact ite_ff ⟨.bl false, H5, I5, rfl, q5⟩
  | true =>
  refine ite_tt (chain_link (thn (hd.run pins s5 σ H5 _ I5 q5) fun vd s6 ⟨v, H6, I6, q6r, q6⟩ => thn (h3 pins s6 σ H6 u v vc vd _ I6 q4r q6r q6) fun w3 s7 ⟨z3, H7, I7, r7', k3, e3, q7⟩ => ?_))
  subst e3
  cases r7'
  refine wpAny_truthy_bool ?_
  cases k3 with
  | false => exact ite_ff ⟨.bl false, H7, I7, rfl, q7⟩
  | true => exact ite_tt (chain_last (thn (he.run pins s7 σ H7 _ I7 q7) fun ve s8 ⟨w, H8, I8, q8r, q8⟩ => h4 pins s8 σ H8 v w vd ve Q I8 q6r q8r q8))
theorem ex_chain4 {r1 r2 r3 r4 : R2} (ha : EX K ta ρ d) (hb : EX K tb ρ e) (hc : EX K tc ρ z) (hd : EX K td ρ y) (he : EX K te ρ x) (h1 : RX K r1 d e (.bool b)) (h2 : RX K r2 e z (.bool c)) (h3 : RX K r3 z y (.bool b3)) (h4 : RX K r4 y x (.bool b4)) :
    EX K (tChain4 r1 r2 r3 r4 ta tb tc td te) ρ (.bool (b && (c && (b3 && b4)))) := fun m G0 H0 G σ H S Q q =>
  ha m G0 H0 G σ H S _ fun v1 G1 H1 x1 p1 => hb m G0 H0 G1 σ H1 (S.step x1) _ fun v2 G2 H2 x2 p2 => h1 m G2 H2 v1 v2 x2.gh (p1.mono x2.gg) p2 _ fun u1 G3 H3 x3 t3 => by
    cases t3
    have S3 := ((S.step x1).step x2).step x3
    have y3 := (x1.trans x2).trans x3
    refine ⟨b, rfl, ?_⟩
    cases b with
    | false => exact q _ G3 H3 y3 (.bl _)
    | true =>
    refine hc m G0 H0 G3 σ H3 S3 _ fun v3 G4 H4 x4 p3 => h2 m G4 H4 v2 v3 x4.gh (p2.mono (x3.gg.trans x4.gg)) p3 _ fun u2 G5 H5 x5 t5 => ?_
    cases t5
    have S5 := (S3.step x4).step x5
    have y5 := (y3.trans x4).trans x5
    refine ⟨c, rfl, ?_⟩
    cases c with
    | false => exact q _ G5 H5 y5 (.bl _)
    | true =>
    refine hd m G0 H0 G5 σ H5 S5 _ fun v4 G6 H6 x6 p4 => h3 m G6 H6 v3 v4 x6.gh (p3.mono (x5.gg.trans x6.gg)) p4 _ fun u3 G7 H7 x7 t7 => ?_
    cases t7
    have S7 := (S5.step x6).step x7
    have y7 := (y5.trans x6).trans x7
    refine ⟨b3, rfl, ?_⟩
    cases b3 with
    | false => exact q _ G7 H7 y7 (.bl _)
    | true => exact he m G0 H0 G7 σ H7 S7 _ fun v5 G8 H8 x8 p5 => h4 m G8 H8 v4 v5 x8.gh (p4.mono (x7.gg.trans x8.gg)) p5 Q fun u4 G9 H9 x9 r9 => q u4 G9 H9 ((y7.trans x8).trans x9) r9
end
end Kd

/-! Kd, part F: zip of a list and a tuple, of two tuples. -/
namespace Kd
open PySem PySem.Spec PyProof.Rows L2 Evl

/-- the list at a and the tuple at b as they stand at each turn, the items in new pairs -/
def ItzM (K : PySem.W.Frag) (a b : Addr) : It :=
  ⟨fun i H => ∃ (xs ys : List V) (x y : V), SqL K H a xs ∧ SqT K H b ys ∧ xs[i]? = some x ∧ ys[i]? = some y,
    fun i H v H' => ∃ T x y, v = .ref T ∧ H T = none ∧ H' = upd H T (.tup [x, y]) ∧ (∀ xs, SqL K H a xs → xs[i]? = some x) ∧ ∀ ys, SqT K H b ys → ys[i]? = some y,
    fun i H => ∃ xs ys : List V, SqL K H a xs ∧ SqT K H b ys ∧ xs.length = i ∧ ys.length = i⟩
theorem turn_zipM {P : Program} {w : World} {K : PySem.W.Frag} {elts : List Expr} {kk : Nat} {tpos : Pos} {a b z TI TO i1 i2 : Addr} (D : ZipSep2 z TI TO i1 i2 [i1, a] [i2, b]) :
    Turn P w K (.Tuple elts kk tpos) (ItzM K a b) [z, TI, TO, i1, i2] z (fun i h => IsZip h z TI TO .none ∧ IsTupOf2 h TI (.ref i1) (.ref i2) ∧ (∃ x y, IsTupOf2 h TO x y) ∧ h.IsListIter i1 a i ∧ h.IsTupleIter i2 b i) where
  mem := by simp
  obj := fun i h st c hc => by
    obtain ⟨hz, hTI, ⟨x, y, hTO⟩, ⟨o1, e1, _, d1⟩, ⟨o2, e2, _, d2⟩⟩ := st
    have e' : c = z ∨ c = TI ∨ c = TO ∨ c = i1 ∨ c = i2 := by simpa using hc
    rcases e' with q | q | q | q | q
    · rw [q]; exact ⟨_, hz, fun v q => nomatch q⟩
    · rw [q]; exact ⟨_, hTI, fun v q => nomatch q⟩
    · rw [q]; exact ⟨_, hTO, fun v q => nomatch q⟩
    · rw [q]; exact ⟨o1, e1, fun v q => by rw [d1] at q; cases q⟩
    · rw [q]; exact ⟨o2, e2, fun v q => by rw [d2] at q; cases q⟩
  keep := fun i h h' st k => by
    obtain ⟨hz, hTI, ⟨x, y, hTO⟩, h1, h2⟩ := st
    exact ⟨k z (by simp) _ hz, k TI (by simp) _ hTI, ⟨x, y, k TO (by simp) _ hTO⟩, h1.at fun o q => k i1 (by simp) o q, h2.at fun o q => k i2 (by simp) o q⟩
  item := by
    intro X hP hw hK hc i pins s σ H E I hf st hg
    subst hP hw hK
    obtain ⟨hz, hTI, ⟨x0, y0, hTO⟩, h1, h2⟩ := st
    obtain ⟨xs, ys, x, y, hqx, hqy, hx, hy⟩ := hg
    obtain ⟨its, rv, p, _⟩ := I.list hqx
    obtain ⟨its2, rv2, p2, _⟩ := I.tuple hqy
    obtain ⟨u, hu, ru⟩ := rv.get hx
    obtain ⟨u2, hu2, ru2⟩ := rv2.get hy
    have hh : X.A.in1.handled = none := I.ok.hd hc
    have hzl : z < s.heap.objs.size := Heap.lt_size hz
    have n1 : a ≠ i1 := fun e => by
      obtain ⟨o1, e1, c1, _⟩ := h1
      obtain ⟨o, eo, co, _⟩ := p.isList
      rw [e, e1] at eo
      cases eo
      rw [c1] at co
      exact absurd co (by decide)
    have n2 : b ≠ i2 := fun e => by
      obtain ⟨o1, e1, c1, _⟩ := h2
      obtain ⟨o, eo, co, _⟩ := p2
      rw [e, e1] at eo
      cases eo
      rw [c1] at co
      exact absurd co (by decide)
    refine wpAny_pyNext_zipD2_item (i := i) D (Draws.list hh i1 a n1 its.toArray) (Draws.tuple hh i2 b n2 its2.toArray) hz hTI hTO ⟨h1, p.isList⟩ ⟨h2, (show s.heap.IsTuple b its2.toArray from p2)⟩
      (by rw [List.size_toArray]; exact (List.getElem?_eq_some_iff.mp hu).1) (by rw [List.size_toArray]; exact (List.getElem?_eq_some_iff.mp hu2).1) fun w1 w2 h' tk hw1 hw2 z' TO' h1' h2' hT hsz hk => ?_
    have ew1 : w1 = u := by
      have q : its.toArray[i]? = some w1 := hw1
      rw [List.getElem?_toArray, hu] at q
      exact (Option.some.inj q).symm
    have ew2 : w2 = u2 := by
      have q : its2.toArray[i]? = some w2 := hw2
      rw [List.getElem?_toArray, hu2] at q
      exact (Option.some.inj q).symm
    subst ew1 ew2
    refine ⟨_, rfl, wpAny_letOwnedTupleGo_zip (s := { s with heap := h', toks := tk }) z' fun h'' z'' sb => ?_⟩
    have hT2 : h''.get? s.heap.objs.size = some { cls := .type "tuple", data := .seq #[w1, w2] } := (sb.2 _ (Nat.ne_of_gt hzl)).trans hT
    have new : ObjOk X.prog X.w (upd H s.heap.objs.size (.tup [x, y])) h'' s.heap.objs.size (.tup [x, y]) :=
      ⟨by show 2 ≤ sizeLine; decide, [w1, w2], .cons ru (.cons ru2 .nil), ⟨_, hT2, rfl, _, rfl⟩⟩
    have I1 : Inv X pins σ (upd H s.heap.objs.size (.tup [x, y])) { s with heap := h'', toks := tk } :=
      I.turnedNew (t' := tk) (ch := [z, TI, TO, i1, i2]) (fun c o hb q => (sb.2 c (fun q' => hb (by simp [q']))).trans (hk c o (fun q' => hb (by simp [q'])) (fun q' => hb (by simp [q'])) (fun q' => hb (by simp [q'])) (fun q' => hb (by simp [q'])) q)) hf (Nat.le_refl _) new
    refine ⟨.ref s.heap.objs.size, _, I1, rfl, ⟨_, x, y, rfl, I.hok.fresh (Nat.le_refl _), rfl, fun l hl => by rw [I.list_inj hl hqx]; exact hx, fun l hl => by rw [I.tuple_inj hl hqy]; exact hy⟩, ⟨z'', ?_, ⟨w1, w2, ?_⟩, ?_, ?_⟩, fun c hcm => ?_⟩
    · exact (sb.2 _ D.TIz).trans (hk _ _ D.TIz D.TITO D.TIi1 D.TIi2 hTI)
    · exact (sb.2 _ D.TOz).trans TO'
    · exact h1'.1.at fun o q => (sb.2 _ (Ne.symm D.zi1)).trans q
    · exact h2'.1.at fun o q => (sb.2 _ (Ne.symm D.zi2)).trans q
    · have hlt : c < s.heap.objs.size := by
        have e' : c = z ∨ c = TI ∨ c = TO ∨ c = i1 ∨ c = i2 := by simpa using hcm
        rcases e' with q | q | q | q | q
        · rw [q]; exact hzl
        · rw [q]; exact Heap.lt_size hTI
        · rw [q]; exact Heap.lt_size hTO
        · rw [q]; obtain ⟨_, e1, _⟩ := h1; exact Heap.lt_size e1
        · rw [q]; obtain ⟨_, e2, _⟩ := h2; exact Heap.lt_size e2
      rw [upd_ne (Nat.ne_of_lt hlt)]
      exact (hf c hcm).1
  done := by
    intro X hP hw hK hc i pins s σ H E I hf st hg
    subst hP hw hK
    obtain ⟨hz, hTI, ⟨x0, y0, hTO⟩, h1, h2⟩ := st
    obtain ⟨xs, ys, hqx, hqy, e1, e2⟩ := hg
    obtain ⟨its, rv, p, _⟩ := I.list hqx
    obtain ⟨its2, rv2, p2, _⟩ := I.tuple hqy
    have l1 := rv.length
    have l2 := rv2.length
    have hh : X.A.in1.handled = none := I.ok.hd hc
    have n1 : a ≠ i1 := fun e => by
      obtain ⟨o1, e1, c1, _⟩ := h1
      obtain ⟨o, eo, co, _⟩ := p.isList
      rw [e, e1] at eo
      cases eo
      rw [c1] at co
      exact absurd co (by decide)
    have n2 : b ≠ i2 := fun e => by
      obtain ⟨o1, e1, c1, _⟩ := h2
      obtain ⟨o, eo, co, _⟩ := p2
      rw [e, e1] at eo
      cases eo
      rw [c1] at co
      exact absurd co (by decide)
    exact wpAny_pyNext_zipD2_end (i := i) D (Draws.list hh i1 a n1 its.toArray) (Draws.tuple hh i2 b n2 its2.toArray) hz hTI hTO ⟨h1, p.isList⟩ ⟨h2, (show s.heap.IsTuple b its2.toArray from p2)⟩
      (by rw [List.size_toArray]; omega) (by rw [List.size_toArray]; omega) (.inl (by rw [List.size_toArray]; omega)) fun h' tk hk => ⟨rfl, I.turnedL (t' := tk) (ch := [z, TI, TO, i1, i2]) (fun c o hb q =>
      hk c o (fun q' => hb (by simp [q'])) (fun q' => hb (by simp [q'])) (fun q' => hb (by simp [q'])) (fun q' => hb (by simp [q'])) q) hf⟩
  self := fun A i s Q E st h => wpAny_pyIter_zip st.1 h
def iZipM (K : PySem.W.Frag) (ta : TA) : TI := fun σ H R => ta σ H fun vs H1 => ∃ a b xs ys, vs = [.ref a, .ref b] ∧ SqL K H1 a xs ∧ SqT K H1 b ys ∧ R (ItzM K a b) H1
theorem pi_zipM {X : Cx} {e e2 : Expr} {ta : TA} {p pos tpos : Pos} {elts : List Expr} {kk : Nat} (hg : Gl X "zip") (hm : X.mg "zip" = none) (ha : PA X [e, e2] ta)
    (hs : starEach [e, e2] X.env = (false, eval e X.env) :: starEach [e2] X.env := by rfl) (hpl : (backTo pos (starEach [e2] X.env)).any (·.1) = false := by rfl) :
    PI X (.Tuple elts kk tpos) (.Call (.Name "zip" p) [e, e2] [] pos) (iZipM X.K ta) := by
  refine ⟨fun pins s σ H R I h => ?_⟩
  refine Call_ (ld_blt I hg hm PyProof.Rows.boot_zip (PyProof.Rows.callWith_type1 (thn (ha.run pos pins s σ H _ I h) fun us s1 ⟨vs, H1, I1, r1, q1⟩ => ?_) hs hpl))
  obtain ⟨a, b, xs, ys, ex, hqx, hqy, q⟩ := q1
  subst ex
  cases r1 with
  | cons r rr =>
    cases rr with
    | cons r' rr =>
      cases rr
      cases r
      cases r'
      obtain ⟨its, rv, p1, _⟩ := I1.list hqx
      obtain ⟨its2, rv2, p2, _⟩ := I1.tuple hqy
      have la : a < s1.heap.objs.size := p1.lt
      have lb : b < s1.heap.objs.size := by
        obtain ⟨o, ho, _⟩ := id p2
        exact Heap.lt_size ho
      refine zip_begins2 (begins_list a its.toArray) (begins_tuple b its2.toArray) p1.isList (show s1.heap.IsTuple b its2.toArray from p2) fun h' hz hTI hTO h1 h2 hsz hk => wpAny_pyIter_zip hz ?_
      have I2 : Inv X pins σ H1 { s1 with heap := h' } := I1.kept (t' := s1.toks) hk
      refine ⟨s1.heap.objs.size + 4, [s1.heap.objs.size + 4, s1.heap.objs.size + 2, s1.heap.objs.size + 3, s1.heap.objs.size, s1.heap.objs.size + 1], _, _, H1, rfl, I2,
        turn_zipM (zip_sep2 (fp1 := [a]) (fp2 := [b]) (fun c hc => by rw [List.mem_singleton.mp hc]; exact la) (fun c hc => by rw [List.mem_singleton.mp hc]; exact lb)), ⟨hz, hTI, ⟨_, _, hTO⟩, ⟨_, h1, rfl, rfl⟩, ⟨_, h2, rfl, rfl⟩⟩, fun c hcm => ?_, q⟩
      have e' : c = s1.heap.objs.size + 4 ∨ c = s1.heap.objs.size + 2 ∨ c = s1.heap.objs.size + 3 ∨ c = s1.heap.objs.size ∨ c = s1.heap.objs.size + 1 := by simpa using hcm
      have hle : s1.heap.objs.size ≤ c := by
        rcases e' with z | z | z | z | z
        · rw [z]; exact Nat.le_add_right _ _
        · rw [z]; exact Nat.le_add_right _ _
        · rw [z]; exact Nat.le_add_right _ _
        · rw [z]; exact Nat.le_refl _
        · rw [z]; exact Nat.le_add_right _ _
      exact I1.fpOk hle (I1.hok.fresh hle)
section
variable {K : PySem.W.Frag} {ρ : Rho} {tA : TA} {ds es : List PyData}
theorem iw_zipM (h : EAX K tA ρ [.list ds, .tuple es]) (hl : ds.length = es.length) : IW K (iZipM K tA) ρ fun us => us = (ds.zip es).map fun p => .tuple [p.1, p.2] := fun m G0 H0 G σ H S R q => h m G0 H0 G σ H S _ fun vs G1 H1 x1 r1 => by
  cases r1 with
  | cons r t =>
    cases t with
    | cons r2 t =>
      cases t
      cases r with
      | @lst a xs _ hs ha =>
        cases r2 with
        | @tup b ys _ ht hb =>
          refine ⟨a, b, xs, ys, rfl, .inl (.inl (x1.gh _ _ hs)), ex_t x1.gh ht, q _ _ G1 H1 x1 (fun m' G' H' e1 e2 => ?_) rfl⟩
          have hx : SqL K H' a xs := .inl (.inl (e2 _ _ (e1 _ _ hs)))
          have hy : SqT K H' b ys := ex_t (e1.trans e2) ht
          refine ⟨fun i d hd => ?_, ⟨xs, ys, hx, hy, ?_, ?_⟩⟩
          · rw [List.getElem?_map] at hd
            obtain ⟨p, hp, rfl⟩ := Option.map_eq_some_iff.mp hd
            obtain ⟨k1, k2⟩ := List.getElem?_zip_eq_some.mp hp
            obtain ⟨u, u1, u2⟩ := ha.get k1
            obtain ⟨w, w1, w2⟩ := hb.get k2
            refine ⟨⟨xs, ys, u, w, hx, hy, u1, w1⟩, fun x H'' y => ?_⟩
            obtain ⟨T, x', y', rfl, hT, rfl, f1, f2⟩ := y
            have ex := (f1 xs hx).symm.trans u1
            have ey := (f2 ys hy).symm.trans w1
            cases ex
            cases ey
            exact xt_pair e2 hT (u2.mono e1) (w2.mono e1)
          · rw [List.length_map, List.length_zip, ha.len]
            omega
          · rw [List.length_map, List.length_zip, hb.len]
            omega
theorem iw_zipT (h : EAX K tA ρ [.tuple ds, .tuple es]) : IW K (RZ.iZipA K tA) ρ fun us => us = (ds.zip es).map fun p => .tuple [p.1, p.2] := fun m G0 H0 G σ H S R q => h m G0 H0 G σ H S _ fun vs G1 H1 x1 r1 => by
  cases r1 with
  | cons r t =>
    cases t with
    | cons r2 t =>
      cases t
      cases r with
      | @tup a xs _ hs ha =>
        cases r2 with
        | @tup b ys _ ht hb =>
          refine ⟨a, b, xs, ys, rfl, .inr ⟨ex_t x1.gh hs, ex_t x1.gh ht, q _ _ G1 H1 x1 (fun m' G' H' e1 e2 => ?_) rfl⟩⟩
          have hx : SqT K H' a xs := ex_t (e1.trans e2) hs
          have hy : SqT K H' b ys := ex_t (e1.trans e2) ht
          refine ⟨fun i d hd => ?_, ⟨xs, ys, hx, hy, ?_⟩⟩
          · rw [List.getElem?_map] at hd
            obtain ⟨p, hp, rfl⟩ := Option.map_eq_some_iff.mp hd
            obtain ⟨k1, k2⟩ := List.getElem?_zip_eq_some.mp hp
            obtain ⟨u, u1, u2⟩ := ha.get k1
            obtain ⟨w, w1, w2⟩ := hb.get k2
            refine ⟨⟨xs, ys, u, w, hx, hy, u1, w1⟩, fun x H'' y => ?_⟩
            obtain ⟨T, x', y', rfl, hT, rfl, f1, f2⟩ := y
            have ex := (f1 xs hx).symm.trans u1
            have ey := (f2 ys hy).symm.trans w1
            cases ex
            cases ey
            exact xt_pair e2 hT (u2.mono e1) (w2.mono e1)
          · rw [List.length_map, List.length_zip, ha.len, hb.len]
            omega
end
end Kd

/-! Kd, part G: list(zip(xs, ys)). -/
namespace Kd
open PySem PySem.Spec PyProof.Rows L2 Evl

theorem zip_no_len : typeLookup (.type "zip") "__len__" = pure none := PySem.am_miss_of_fast (by decide +kernel)
theorem zip_no_hint : typeLookup (.type "zip") "__length_hint__" = pure none := PySem.am_miss_of_fast (by decide +kernel)
section
variable {prog : Program} {w : World} {A : Around} {E : Value → Shared → Prop} {s : Shared} {z TI TO i1 i2 l1 l2 : Addr} {xs ys : Array Value}
theorem hint_zip {Q : Bool → Shared → Prop} (hT : s.TypeIs (.ref z) "zip") (h : Q true s) : wpAny (model prog w) A (Builtin.List.listLengthHint (.ref z)) Q E s := by
  unfold Builtin.List.listLengthHint
  refine wpAny_bind (wpAny_specialOf hT zip_no_len ?_)
  refine wpAny_ite_split (fun hab => absurd hab (by decide)) (fun _ => ?_)
  refine wpAny_ite_split (fun hab => absurd hab (by decide)) (fun _ => ?_)
  refine wpAny_bind (wpAny_specialOf hT zip_no_hint ?_)
  exact wpAny_pure h
theorem ne_lo {a T N : Nat} (h : a < N) (k : N ≤ T) : T ≠ a := by omega
/-- the zip as it stands between two turns -/
def ZipRun (h : Heap) (z TI TO i1 i2 S : Addr) : Prop :=
  (IsZip h z TI TO .none ∧ ∃ a b, IsPair h TO a b) ∨ ∃ T f oT, IsZipHeld h z TI TO T f ∧ h.get? T = some oT ∧ T ≠ z ∧ T ≠ i1 ∧ T ≠ i2 ∧ T ≠ S
/-- the pairs that were laid -/
def Laid (h : Heap) (N : Nat) (S : Addr) (xs ys : Array Value) (Ts : List Addr) : Prop :=
  Ts.Nodup ∧ ∀ (j : Nat) (T : Addr), Ts[j]? = some T → N ≤ T ∧ T < h.objs.size ∧ T ≠ S ∧ ∃ x y, xs[j]? = some x ∧ ys[j]? = some y ∧ IsPair h T x y
theorem zip_loop {R : Result → Shared → Prop} (hh : A.handled = none) (D : ZipApart z TI TO i1 i2 l1 l2) {S : Addr} {res : Value} (hn : xs.size = ys.size) (sz : xs.size ≤ 1000)
    (dS : S ≠ z ∧ S ≠ TI ∧ S ≠ TO ∧ S ≠ i1 ∧ S ≠ i2 ∧ S ≠ l1 ∧ S ≠ l2) (N : Nat) (hN : z < N ∧ TO < N ∧ i1 < N ∧ i2 < N) :
    ∀ (k i : Nat) (s : Shared) (c : Nat) (Ts : List Addr), xs.size - i = k → i ≤ xs.size → N ≤ s.heap.objs.size → IsPair s.heap TI (.ref i1) (.ref i2) → s.heap.IsListIter i1 l1 i → s.heap.IsListIter i2 l2 i →
    s.heap.IsList l1 xs → s.heap.IsList l2 ys → ZipRun s.heap z TI TO i1 i2 S → s.heap.get? S = some { cls := .type "list", dict := none, data := .seq (Ts.map Value.ref).toArray c, slots := #[] } →
    Ts.length = i → Laid s.heap N S xs ys Ts →
    (∀ h' tk c' Ts', (∀ b o, b ≠ z → b ≠ TO → b ≠ i1 → b ≠ i2 → b ≠ S → s.heap.get? b = some o → h'.get? b = some o) →
      h'.get? S = some { cls := .type "list", dict := none, data := .seq (Ts'.map Value.ref).toArray c', slots := #[] } → Ts'.length = xs.size → Laid h' N S xs ys Ts' → R (.ok (.ret res)) { s with heap := h', toks := tk }) →
    codeAny (model prog w) A (.builtin "list.extend.loop" ⟨[.ref S, .ref z, res], []⟩) R s := by
  intro k
  induction k with
  | zero =>
    intro i s c Ts hk hi hNs hTI h1 h2 hl1 hl2 hz hS hT hL hR
    have hin : i = xs.size := by omega
    refine codeAny_builtin PySem.F.entry_extend_loop ?_
    rw [Around.under_plainId PySem.F.plain_extend_loop _]
    show wpAny _ A.in1 (pyNext (.ref z) >>= _) _ _ s
    have hend : xs[i]? = none ∨ ys[i]? = none := .inl (Array.getElem?_eq_none (by omega))
    have grow : ∀ {h' : Heap}, (∀ b o, b ≠ z → b ≠ TO → b ≠ i1 → b ≠ i2 → s.heap.get? b = some o → h'.get? b = some o) → ∀ T x y, IsPair s.heap T x y → N ≤ T → T < h'.objs.size := fun hk' T x y e hT => Heap.lt_size (hk' T _ (ne_lo hN.1 hT) (ne_lo hN.2.1 hT) (ne_lo hN.2.2.1 hT) (ne_lo hN.2.2.2 hT) e)
    have fin2 : ∀ (h' : Heap) (tk : Nat), (∀ b o, b ≠ z → b ≠ TO → b ≠ i1 → b ≠ i2 → s.heap.get? b = some o → h'.get? b = some o) → R (.ok (.ret res)) { s with heap := h', toks := tk } := fun h' tk hk' => by
      refine hR h' tk c Ts (fun b o n1 n2 n3 n4 _ e => hk' b o n1 n2 n3 n4 e) (hk' S _ dS.1 dS.2.2.1 dS.2.2.2.1 dS.2.2.2.2.1 hS) (by omega) ⟨hL.1, fun j T e => ?_⟩
      obtain ⟨a1, a2, a3, x, y, a4, a5, a6⟩ := hL.2 j T e
      exact ⟨a1, grow hk' T x y a6 a1, a3, x, y, a4, a5, hk' T _ (ne_lo hN.1 a1) (ne_lo hN.2.1 a1) (ne_lo hN.2.2.1 a1) (ne_lo hN.2.2.2 a1) a6⟩
    rcases hz with ⟨hz, a, b, hTO⟩ | ⟨T, f, oT, hz, hT', r1, r2, r3, r4⟩
    · exact wpAny_bind (wpAny_pyNext_zip_end hh D hz hTI hTO h1 h2 hl1 hl2 hend fun h' hk' => wpAny_pure (fin2 h' s.toks fun b o n1 n2 n3 n4 e => by
        first
          | exact hk' b o n1 n2 n3 n4 e
          | exact hk' b o n1 n3 n4 e))
    · exact wpAny_bind (wpAny_pyNext_zip_end_held hh D hz hT' hTI h1 h2 hl1 hl2 hend fun h' hk' => wpAny_pure (fin2 h' s.toks fun b o n1 n2 n3 n4 e => hk' b o n1 n3 n4 e))
  | succ k ih =>
    intro i s c Ts hk hi hNs hTI h1 h2 hl1 hl2 hz hS hT hL hR
    have hix : i < xs.size := by omega
    have hiy : i < ys.size := by omega
    have ex := Array.getElem?_eq_getElem hix
    have ey := Array.getElem?_eq_getElem hiy
    refine codeAny_builtin PySem.F.entry_extend_loop ?_
    rw [Around.under_plainId PySem.F.plain_extend_loop _]
    show wpAny _ A.in1 (pyNext (.ref z) >>= _) _ _ s
    have hSl : S < s.heap.objs.size := Heap.lt_size hS
    -- behind the draw
    have go : ∀ (h' : Heap), h'.IsListIter i1 l1 (i + 1) → h'.IsListIter i2 l2 (i + 1) → IsPair h' s.heap.objs.size xs[i] ys[i] → h'.objs.size = s.heap.objs.size + 1 → ZipRun h' z TI TO i1 i2 S →
        (∀ b o, b ≠ z → b ≠ TO → b ≠ i1 → b ≠ i2 → s.heap.get? b = some o → h'.get? b = some o) →
        wpAny (model prog w) A.in1 (do updateSeq S (·.push (.ref s.heap.objs.size)); again (.builtin "list.extend.loop" ⟨[.ref S, .ref z, res], []⟩)) (fun fin s' => match fin with | .done f => R (.ok f) s' | .again c' => c'.quiet = true ∧ codeAny (model prog w) A c' R s') (fun e s' => R (.error e) s') { s with heap := h' } := fun h' g1 g2 g3 g4 gz hk' => by
      have hS' := hk' S _ dS.1 dS.2.2.1 dS.2.2.2.1 dS.2.2.2.2.1 hS
      refine wpAny_bind ?_
      have hlen : (Ts.map Value.ref).toArray.size = i := by rw [List.size_toArray, List.length_map, hT]
      refine wpAny_updateSeq hS' rfl (wpAny_pure ⟨plainId_quiet PySem.F.plain_extend_loop _, ?_⟩) (by rw [hlen, sizeLine_eq]; omega) (by show ((Ts.map Value.ref).toArray.push _).size ≤ sizeLine + 1; rw [Array.size_push, hlen, sizeLine_eq]; omega)
      have oth : ∀ b o, b ≠ S → h'.get? b = some o → (h'.update S (Obj.mapSeq (·.push (.ref s.heap.objs.size)))).get? b = some o := fun b o hb e => (Heap.get?_update_other _ _ (Ne.symm hb)).trans e
      have upS := Heap.get?_update_self (Obj.mapSeq (·.push (Value.ref s.heap.objs.size))) hS' rfl
      have epush : (Ts.map Value.ref).toArray.push (Value.ref s.heap.objs.size) = ((Ts ++ [s.heap.objs.size]).map Value.ref).toArray := by
        rw [List.map_append, List.push_toArray]
        rfl
      obtain ⟨c', upS'⟩ : ∃ c', (h'.update S (Obj.mapSeq (·.push (.ref s.heap.objs.size)))).get? S = some { cls := .type "list", dict := none, data := .seq ((Ts ++ [s.heap.objs.size]).map Value.ref).toArray c', slots := #[] } := ⟨_, by rw [← epush]; exact upS⟩
      have notS : s.heap.objs.size ≠ S := Nat.ne_of_gt hSl
      refine ih (i + 1) { s with heap := h'.update S (Obj.mapSeq (·.push (.ref s.heap.objs.size))) } c' (Ts ++ [s.heap.objs.size]) (by omega) hix (by show N ≤ (h'.update _ _).objs.size; rw [Heap.size_update]; omega)
        (oth _ _ (Ne.symm dS.2.1) (hk' _ _ D.TIz D.TITO D.TIi1 D.TIi2 hTI)) (g1.at fun o e => oth _ o (Ne.symm dS.2.2.2.1) e) (g2.at fun o e => oth _ o (Ne.symm dS.2.2.2.2.1) e)
        (hl1.at fun o e => oth _ o (Ne.symm dS.2.2.2.2.2.1) (hk' _ o D.l1z D.l1TO D.l1i1 D.l1i2 e)) (hl2.at fun o e => oth _ o (Ne.symm dS.2.2.2.2.2.2) (hk' _ o D.l2z D.l2TO D.l2i1 D.l2i2 e)) ?_ ?_ (by rw [List.length_append, hT]; rfl) ?_ ?_
      · rcases gz with ⟨q, a, b, qO⟩ | ⟨T, f, oT, q, qT, r1, r2, r3, r4⟩
        · exact .inl ⟨oth _ _ (Ne.symm dS.1) q, a, b, oth _ _ (Ne.symm dS.2.2.1) qO⟩
        · exact .inr ⟨T, f, oT, oth _ _ (Ne.symm dS.1) q, oth _ _ r4 qT, r1, r2, r3, r4⟩
      · exact upS'
      · refine ⟨?_, fun j T e => ?_⟩
        · refine List.nodup_append.mpr ⟨hL.1, List.pairwise_singleton _ _, fun a ha b hb => ?_⟩
          rw [List.mem_singleton.mp hb]
          obtain ⟨j, hj⟩ := List.mem_iff_getElem?.mp ha
          exact Nat.ne_of_lt (hL.2 j a hj).2.1
        · by_cases hj : j < Ts.length
          · rw [List.getElem?_append_left hj] at e
            obtain ⟨a1, a2, a3, x, y, a4, a5, a6⟩ := hL.2 j T e
            refine ⟨a1, by show T < (h'.update _ _).objs.size; rw [Heap.size_update, g4]; exact Nat.lt_succ_of_lt a2, a3, x, y, a4, a5, oth T _ a3 (hk' T _ (ne_lo hN.1 a1) (ne_lo hN.2.1 a1) (ne_lo hN.2.2.1 a1) (ne_lo hN.2.2.2 a1) a6)⟩
          · have hlt := (List.getElem?_eq_some_iff.mp e).1
            rw [List.length_append] at hlt
            have hlt : j < Ts.length + 1 := hlt
            have ej : j = Ts.length := by omega
            subst ej
            rw [List.getElem?_append_right (Nat.le_refl _), Nat.sub_self] at e
            have eT : s.heap.objs.size = T := Option.some.inj e
            subst eT
            rw [hT]
            exact ⟨hNs, by show s.heap.objs.size < (h'.update _ _).objs.size; rw [Heap.size_update]; omega, notS, xs[i], ys[i], ex, ey, oth _ _ notS g3⟩
      · intro h'' tk c' Ts' k'' hS'' hlen'' hL''
        exact hR h'' tk c' Ts' (fun b o n1 n2 n3 n4 n5 e => k'' b o n1 n2 n3 n4 n5 (oth b o n5 (hk' b o n1 n2 n3 n4 e))) hS'' hlen'' hL''
    rcases hz with ⟨hz, a, b, hTO⟩ | ⟨T, f, oT, hz, hT', r1, r2, r3, r4⟩
    · refine wpAny_bind (wpAny_pyNext_zip_item D hz hTI hTO h1 h2 hl1 hl2 ex ey fun h' a1 a2 a3 a4 a5 a6 hk' => ?_)
      exact go h' a3 a4 a5 a6 (.inr ⟨s.heap.objs.size, false, _, a1, a5, ne_lo hN.1 hNs, ne_lo hN.2.2.1 hNs, ne_lo hN.2.2.2 hNs, Nat.ne_of_gt hSl⟩) hk'
    · refine wpAny_bind (wpAny_pyNext_zip_item_held D hz hT' hTI h1 h2 hl1 hl2 ex ey fun h' a1 a3 a4 a5 a6 hk' => ?_)
      exact go h' a3 a4 a5 a6 (.inr ⟨T, true, oT, a1, hk' _ _ r1 r2 r3 hT', r1, r2, r3, r4⟩) fun b o n1 _ n3 n4 e => hk' b o n1 n3 n4 e
/-- list(z) of a new zip of two lists -/
theorem list_zip {Q : Value → Shared → Prop} (hh : A.handled = none) (D : ZipApart z TI TO i1 i2 l1 l2) (hn : xs.size = ys.size) (sz : xs.size ≤ 1000) (hz : IsZip s.heap z TI TO .none) (hTI : IsPair s.heap TI (.ref i1) (.ref i2)) (hTO : ∃ a b, IsPair s.heap TO a b)
    (h1 : s.heap.IsListIter i1 l1 0) (h2 : s.heap.IsListIter i2 l2 0) (hl1 : s.heap.IsList l1 xs) (hl2 : s.heap.IsList l2 ys)
    (hQ : ∀ h' tk c' Ts, (∀ b o, b ≠ z → b ≠ TO → b ≠ i1 → b ≠ i2 → s.heap.get? b = some o → h'.get? b = some o) →
      h'.get? s.heap.objs.size = some { cls := .type "list", dict := none, data := .seq (Ts.map Value.ref).toArray c', slots := #[] } → Ts.length = xs.size → Laid h' (s.heap.objs.size + 1) s.heap.objs.size xs ys Ts → Q (.ref s.heap.objs.size) { s with heap := h', toks := tk }) :
    wpAny (model prog w) A (call (.type "list") [.ref z]) Q E s := by
  refine callType_codes (Q₁ := fun obj s₁ => obj = .ref s.heap.objs.size ∧ s₁ = { s with heap := s.heap.push { cls := .type "list", data := .seq #[] } }) PySem.F.called_list (PySem.F.typeCall_list_1 _) PySem.F.entry_list_init
    (code_list_new _ ⟨rfl, rfl⟩) fun obj s₁ hp => ?_
  obtain ⟨rfl, rfl⟩ := hp
  have hS : (s.heap.push { cls := .type "list", data := .seq #[] }).get? s.heap.objs.size = some { cls := .type "list", data := .seq #[] } := Heap.get?_push_size _ rfl
  refine ⟨⟨_, hS, rfl⟩, PySem.F.args_list_init_2 _ _, ?_⟩
  have lt : ∀ {b : Addr} {o : Obj}, s.heap.get? b = some o → s.heap.objs.size ≠ b := fun e => Nat.ne_of_gt (Heap.lt_size e)
  have lt' : ∀ {b : Addr} {o : Obj}, s.heap.get? b = some o → b < s.heap.objs.size + 1 := fun e => Nat.lt_succ_of_lt (Heap.lt_size e)
  have dS : s.heap.objs.size ≠ z ∧ s.heap.objs.size ≠ TI ∧ s.heap.objs.size ≠ TO ∧ s.heap.objs.size ≠ i1 ∧ s.heap.objs.size ≠ i2 ∧ s.heap.objs.size ≠ l1 ∧ s.heap.objs.size ≠ l2 := by
    obtain ⟨a, b, hTO⟩ := hTO
    obtain ⟨_, e1, _⟩ := id h1
    obtain ⟨_, e2, _⟩ := id h2
    obtain ⟨_, e3, _⟩ := id hl1
    obtain ⟨_, e4, _⟩ := id hl2
    exact ⟨lt hz, lt hTI, lt hTO, lt e1, lt e2, lt e3, lt e4⟩
  have hN : z < s.heap.objs.size + 1 ∧ TO < s.heap.objs.size + 1 ∧ i1 < s.heap.objs.size + 1 ∧ i2 < s.heap.objs.size + 1 := by
    obtain ⟨a, b, hTO⟩ := hTO
    obtain ⟨_, e1, _⟩ := id h1
    obtain ⟨_, e2, _⟩ := id h2
    exact ⟨lt' hz, lt' hTO, lt' e1, lt' e2⟩
  generalize hh1 : s.heap.push { cls := .type "list", data := .seq #[] } = g1 at hS ⊢
  have k1 : ∀ b o, s.heap.get? b = some o → g1.get? b = some o := fun b o e => by rw [← hh1]; exact Heap.get?_push_of_some _ e
  have z1 : g1.objs.size = s.heap.objs.size + 1 := by rw [← hh1, Heap.size_push]
  -- the loop from a heap that kept all but the list
  have key : ∀ (g : Heap) (c : Nat), (∀ b o, b ≠ s.heap.objs.size → g1.get? b = some o → g.get? b = some o) → g.objs.size = g1.objs.size → g.get? s.heap.objs.size = some { cls := .type "list", dict := none, data := .seq (([] : List Addr).map Value.ref).toArray c, slots := #[] } →
      codeAny (model prog w) A.in1 (.builtin "list.extend.loop" ⟨[.ref s.heap.objs.size, .ref z, .none], []⟩) (wants (fun r s₂ => r = Value.none ∧ Q (Value.ref s.heap.objs.size) s₂) E) { s with heap := g } := fun g c kg zg eg => by
    have kk : ∀ b o, b ≠ s.heap.objs.size → s.heap.get? b = some o → g.get? b = some o := fun b o n e => kg b o n (k1 b o e)
    refine zip_loop (A := A.in1) hh D hn sz dS (s.heap.objs.size + 1) hN xs.size 0 { s with heap := g } c [] (by omega) (Nat.zero_le _) (by show s.heap.objs.size + 1 ≤ g.objs.size; rw [zg, z1]; exact Nat.le_refl _) (kk _ _ (Ne.symm dS.2.1) hTI) (h1.at fun o e => kk _ o (Ne.symm dS.2.2.2.1) e) (h2.at fun o e => kk _ o (Ne.symm dS.2.2.2.2.1) e)
      (hl1.at fun o e => kk _ o (Ne.symm dS.2.2.2.2.2.1) e) (hl2.at fun o e => kk _ o (Ne.symm dS.2.2.2.2.2.2) e) ?_ eg rfl ⟨List.nodup_nil, fun j T e => nomatch e⟩ fun h' tk c' Ts k' eS hl hL => ?_
    · obtain ⟨a, b, hTO⟩ := hTO
      exact .inl ⟨kk _ _ (Ne.symm dS.1) hz, a, b, kk _ _ (Ne.symm dS.2.2.1) hTO⟩
    · exact ⟨rfl, hQ h' tk c' Ts (fun b o n1 n2 n3 n4 e => by
        have nb : b ≠ s.heap.objs.size := fun x => lt e x.symm
        exact k' b o n1 n2 n3 n4 nb (kk b o nb e)) eS hl hL⟩
  show wpAny _ _ (do let old ← Builtin.List.listItems (.ref s.heap.objs.size); Builtin.List.listUpdate (.ref s.heap.objs.size) (fun _ => #[]); letGo old.toList.reverse; Builtin.List.listExtendWith (.ref s.heap.objs.size) (.ref z) .none) _ _ _
  refine wpAny_bind ?_
  unfold Builtin.List.listItems
  refine wpAny_bind (wpAny_seqItems hS rfl (wpAny_pure ?_))
  show wpAny _ _ (updateSeq s.heap.objs.size (fun _ => #[]) >>= fun _ => letGo (#[] : Array Value).toList.reverse >>= fun _ => Builtin.List.listExtendWith (.ref s.heap.objs.size) (.ref z) .none) _ _ _
  refine wpAny_bind (wpAny_updateSeq hS rfl ?_)
  have hS₂ := Heap.get?_update_self (Obj.mapSeq (fun _ => (#[] : Array Value))) hS rfl
  have oth : ∀ b o, b ≠ s.heap.objs.size → g1.get? b = some o → (g1.update s.heap.objs.size (Obj.mapSeq (fun _ => (#[] : Array Value)))).get? b = some o := fun b o hb e => (Heap.get?_update_other _ _ (Ne.symm hb)).trans e
  refine wpAny_bind (wpAny_letGo ?_)
  unfold Builtin.List.listExtendWith
  have hz2 : (g1.update s.heap.objs.size (Obj.mapSeq (fun _ => (#[] : Array Value)))).get? z = some { cls := .type "zip", dict := none, data := .fields #[.none, .bool false, .bool false, .ref TI, .ref TO], slots := #[] } := oth z _ (Ne.symm dS.1) (k1 z _ hz)
  refine wpAny_bind (wpAny_typeOf (T := "zip") ⟨_, hz2, rfl⟩ ?_)
  have e1 : Builtin.List.listSameRef (.ref s.heap.objs.size) (.ref z) = false := by simp [Builtin.List.listSameRef, dS.1]
  have e2 : (Value.type "zip" == Value.type "list") = false := by decide
  have e3 : (Value.type "zip" == Value.type "tuple") = false := by decide
  simp only [e1, e2, e3, Bool.or_false, Bool.false_eq_true, if_false]
  refine wpAny_bind (wpAny_pyIter_zip hz2 ?_)
  refine wpAny_bind (wpAny_holding (hint_zip ⟨_, hz2, rfl⟩ ?_))
  refine wpAny_ite_split (fun _ => ?_) (fun hab => absurd rfl hab)
  refine wpAny_bind (wpAny_rule ?_)
  refine wpAny_bind ?_
  show wpAny _ _ (updateSeq s.heap.objs.size (·.push .none) >>= fun _ => updateSeq s.heap.objs.size (·.pop)) _ _ _
  refine wpAny_bind (wpAny_updateSeq hS₂ rfl ?_)
  have hS₃ := Heap.get?_update_self (Obj.mapSeq (·.push Value.none)) hS₂ rfl
  refine wpAny_updateSeq (hz := by seq_fits) hS₃ rfl ?_
  have hS₄ := Heap.get?_update_self (Obj.mapSeq (·.pop)) hS₃ rfl
  refine wpAny_pure ⟨plainId_quiet PySem.F.plain_extend_loop _, key _ _ (fun b o hb e => ?_) (by rw [Heap.size_update, Heap.size_update, Heap.size_update]) hS₄⟩
  exact (Heap.get?_update_other _ _ (Ne.symm hb)).trans ((Heap.get?_update_other _ _ (Ne.symm hb)).trans (oth b o hb e))
end
end Kd

/-! Kd, part H: list(zip(xs, ys)) as a rule; a name that holds a zip. -/
namespace Kd
open PySem PySem.Spec PyProof.Rows L2 Evl

def tListZip (K : PySem.W.Frag) (ta : TA) : TE := fun σ H Q => ta σ H fun vs H1 => ∃ a b xs ys, vs = [.ref a, .ref b] ∧ SqL K H1 a xs ∧ SqL K H1 b ys ∧ xs.length = ys.length ∧ xs.length ≤ 1000 ∧
  ∀ (H2 : Hp) (l : Addr) (Ts : List Addr), Ex H1 H2 → H1 l = none → l ∉ Ts → (∀ T ∈ Ts, H1 T = none) → H2 l = some (.lst (Ts.map V.ref)) → Ts.length = xs.length →
    (∀ (j : Nat) (T : Addr), Ts[j]? = some T → ∃ x y, xs[j]? = some x ∧ ys[j]? = some y ∧ H2 T = some (.tup [x, y])) → Q (.ref l) H2
section
variable {X : Cx} {K : PySem.W.Frag}
theorem pe_listZip {e e2 : Expr} {ta : TA} {p p2 pos pz : Pos} (hc : X.calm = true) (hgl : Gl X "list") (hml : X.mg "list" = none) (hg : Gl X "zip") (hm : X.mg "zip" = none) (ha : PA X [e, e2] ta)
    (hs : starEach [e, e2] X.env = (false, eval e X.env) :: starEach [e2] X.env := by rfl) (hpl : (backTo pz (starEach [e2] X.env)).any (·.1) = false := by rfl)
    (na : starEach [(.Call (.Name "zip" p2) [e, e2] [] pz : Expr)] X.env = (false, eval (.Call (.Name "zip" p2) [e, e2] [] pz) X.env) :: starEach [] X.env := by rfl) :
    PE X (.Call (.Name "list" p) [.Call (.Name "zip" p2) [e, e2] [] pz] [] pos) (tListZip X.K ta) := by
  refine ⟨fun pins s σ H Q I h => ?_⟩
  refine Call_ (ld_blt I hgl hml boot_list (PyProof.Rows.callWith_type1 (args_cons ?_ na) na))
  refine Call_ (ld_blt I hg hm PyProof.Rows.boot_zip (PyProof.Rows.callWith_type1 (thn (ha.run pz pins s σ H _ I h) fun us s1 ⟨vs, H1, I1, r1, q1⟩ => ?_) hs hpl))
  obtain ⟨a, b, xs, ys, ex, hqx, hqy, hl, hz, q⟩ := q1
  subst ex
  cases r1 with
  | cons r rr =>
  cases rr with
  | cons r' rr =>
  cases rr
  cases r
  cases r'
  obtain ⟨its, rv, p1, _⟩ := I1.list hqx
  obtain ⟨its2, rv2, p2', _⟩ := I1.list hqy
  have la : a < s1.heap.objs.size := p1.lt
  have lb : b < s1.heap.objs.size := p2'.lt
  have l1 := rv.length
  have l2 := rv2.length
  refine call_zip_2 p1.isList p2'.isList fun h' hz' hTI hTO h1 h2 hsz hk => args_nil ?_
  have I2 : Inv X pins σ H1 { s1 with heap := h' } := I1.kept (t' := s1.toks) hk
  refine list_zip (s := { s1 with heap := h' }) (I.ok.hd hc) (PySem.W.ktu_apart s1.heap.objs.size a b la lb) (by rw [List.size_toArray, List.size_toArray]; omega) (by rw [List.size_toArray]; omega) hz' hTI ⟨_, _, hTO⟩ h1 h2 (p1.isList.at fun o e => hk _ o e) (p2'.isList.at fun o e => hk _ o e) fun h3 tk c' Ts k3 eS hlT hL => ?_
  have s1h : s1.heap.objs.size ≤ h'.objs.size := by rw [hsz]; exact Nat.le_add_right _ _
  have k13 : ∀ b o, s1.heap.get? b = some o → h3.get? b = some o := fun c o e => by
    have hlt : c < s1.heap.objs.size := Heap.lt_size e
    exact k3 c o (Nat.ne_of_lt (Nat.lt_of_lt_of_le hlt (Nat.le_add_right _ _))) (Nat.ne_of_lt (Nat.lt_of_lt_of_le hlt (Nat.le_add_right _ _))) (Nat.ne_of_lt hlt) (Nat.ne_of_lt (Nat.lt_of_lt_of_le hlt (Nat.le_add_right _ _))) (hk c o e)
  have I3 : Inv X pins σ H1 { s1 with heap := h3, toks := tk } := I1.kept (t' := tk) k13
  have hn0 : H1 h'.objs.size = none := I1.hok.fresh s1h
  have lenT : (Ts.map V.ref).length ≤ sizeLine := by
    rw [List.length_map, hlT, List.size_toArray, sizeLine_eq]
    omega
  have rT : Vals (Ts.map V.ref) (Ts.map Value.ref) := vals_refs Ts
  have I4 : Inv X pins σ (upd H1 h'.objs.size (.lst (Ts.map V.ref))) { s1 with heap := h3, toks := tk } :=
    I3.take (h' := h3) (t' := tk) (fun b ob _ e => e) (I1.fpOk s1h hn0) ⟨lenT, _, c', rT, eS⟩
  obtain ⟨H2, I5, g, qt⟩ := L2.DX.takeT (P := fun T vs => ∃ (j : Nat) (x y : V), Ts[j]? = some T ∧ xs[j]? = some x ∧ ys[j]? = some y ∧ vs = [x, y]) I1 Ts _ I4 hL.1 fun T hT => by
    obtain ⟨j, hj⟩ := List.mem_iff_getElem?.mp hT
    obtain ⟨a1, a2, a3, u, u2, b1, b2, b3⟩ := hL.2 j T hj
    rw [List.getElem?_toArray] at b1 b2
    have hjx : j < xs.length := by
      rw [l1]
      exact (List.getElem?_eq_some_iff.mp b1).1
    have hjy : j < ys.length := by omega
    have x1 : xs[j]? = some xs[j] := List.getElem?_eq_getElem hjx
    have y1 : ys[j]? = some ys[j] := List.getElem?_eq_getElem hjy
    obtain ⟨w, hw, rw'⟩ := rv.get x1
    obtain ⟨w2, hw2, rw2⟩ := rv2.get y1
    have ew : w = u := Option.some.inj (hw.symm.trans b1)
    have ew2 : w2 = u2 := Option.some.inj (hw2.symm.trans b2)
    subst ew ew2
    have hge : s1.heap.objs.size ≤ T := Nat.le_trans s1h (Nat.le_of_lt a1)
    refine ⟨hge, ?_, [xs[j], ys[j]], ⟨j, _, _, hj, x1, y1, rfl⟩, fun H3 => ⟨by rw [sizeLine_eq]; show 2 ≤ 16777216; omega, [w, w2], .cons rw' (.cons rw2 .nil), ⟨_, b3, rfl, 0, rfl⟩⟩⟩
    rw [upd_ne a3]
    exact I1.hok.fresh hge
  refine ⟨.ref h'.objs.size, H2, I5, rfl, q H2 h'.objs.size Ts (fun b o e => g b o (by rw [upd_ne (ne_of_none e hn0)]; exact e)) hn0 (fun hm => ?_) (fun T hT => ?_) (g _ _ upd_same) (by rw [hlT, List.size_toArray]; exact l1.symm) fun j T hj => ?_⟩
  · obtain ⟨j, hj⟩ := List.mem_iff_getElem?.mp hm
    exact (hL.2 j _ hj).2.2.1 rfl
  · obtain ⟨j, hj⟩ := List.mem_iff_getElem?.mp hT
    exact I1.hok.fresh (Nat.le_trans s1h (Nat.le_of_lt (hL.2 j T hj).1))
  · obtain ⟨vs, ⟨i, x, y, hi, hx, hy, ev⟩, hH⟩ := qt T (List.mem_of_getElem? hj)
    have eij : i = j := (List.getElem?_inj (List.getElem?_eq_some_iff.mp hi).1 hL.1).mp (hi.trans hj.symm)
    subst eij
    rw [ev] at hH
    exact ⟨x, y, hx, hy, hH⟩
variable {ρ : Rho} {tA : TA} {ds es : List PyData}
theorem el_listZip (h : EAX K tA ρ [.list ds, .list es]) (hl : ds.length = es.length) (hz : ds.length ≤ 1000) : EL K (tListZip K tA) ρ ((ds.zip es).map fun p => .tuple [p.1, p.2]) := fun m G0 H0 G σ H S Q q => h m G0 H0 G σ H S _ fun vs G1 H1 x1 r1 => by
  cases r1 with
  | cons r t =>
  cases t with
  | cons r2 t =>
  cases t
  cases r with
  | @lst a xs _ hs ha =>
  cases r2 with
  | @lst b ys _ ht hb =>
  refine ⟨a, b, xs, ys, rfl, .inl (.inl (x1.gh _ _ hs)), .inl (.inl (x1.gh _ _ ht)), by rw [ha.len, hb.len, hl], by rw [ha.len]; exact hz, fun H2 l Ts eH hl0 hlT hT0 hl2 hlen hc => ?_⟩
  have gT : ∀ T ∈ Ts, G1 T = none := fun T hT => fresh_back x1.gh (hT0 T hT)
  have eG : Ex G1 (fun c => if c ∈ Ts then H2 c else G1 c) := fun c o e => by
    have hn : c ∉ Ts := fun hm => by
      rw [gT c hm] at e
      cases e
    show (if c ∈ Ts then H2 c else G1 c) = some o
    rw [if_neg hn]
    exact e
  have x2 : Xt m G1 H1 (fun c => if c ∈ Ts then H2 c else G1 c) H2 := by
    refine ⟨eG, fun a o _ e => eH a o e, fun c o e => ?_, fun c g k => ?_, fun c k => ?_, (fun p _ ⟨i, j, k1, k2, k3, k4⟩ => ⟨i, j, k1, k2, k3, eH p _ k4⟩), fun c k => ?_⟩
    · have e : (if c ∈ Ts then H2 c else G1 c) = some o := e
      by_cases hm : c ∈ Ts
      · rw [if_pos hm] at e
        exact e
      · rw [if_neg hm] at e
        exact eH c o (x1.gh c o e)
    · show (if c ∈ Ts then H2 c else G1 c) = none
      rw [if_neg fun hm => by rw [hT0 c hm] at k; exact nomatch k]
      exact g
    · cases e : H1 c with
      | none => exact absurd e k
      | some o =>
        rw [eH c o e]
        exact fun z => nomatch z
    · cases e : H1 c with
      | none =>
        rw [e] at k
        exact nomatch k
      | some o =>
        rw [eH c o e]
        rw [e] at k
        exact k
  refine q l (Ts.map V.ref) _ H2 (x1.trans x2) (x1.freeB hl0) ?_ hl2 ?_
  · show (if l ∈ Ts then H2 l else G1 l) = none
    rw [if_neg hlT]
    exact fresh_back x1.gh hl0
  · -- each pair
    have pairs : ∀ (Us : List Addr) (us ws : List V) (ps qs : List PyData), RpAll K G1 us ps → RpAll K G1 ws qs → Us.length = us.length → us.length = ws.length → (∀ T ∈ Us, T ∈ Ts) →
        (∀ (j : Nat) (T : Addr), Us[j]? = some T → ∃ x y, us[j]? = some x ∧ ws[j]? = some y ∧ H2 T = some (.tup [x, y])) → RpAll K (fun c => if c ∈ Ts then H2 c else G1 c) (Us.map V.ref) ((ps.zip qs).map fun p => .tuple [p.1, p.2]) := by
      intro Us
      induction Us with
      | nil =>
        intro us ws ps qs h1 h2 e1 e2 _ _
        cases h1 with
        | nil => exact .nil
        | cons _ _ => cases e1
      | cons T Us ih =>
        intro us ws ps qs h1 h2 e1 e2 hm hc
        cases h1 with
        | nil => cases e1
        | cons a1 t1 =>
          cases h2 with
          | nil => cases e2
          | cons a2 t2 =>
            obtain ⟨x, y, hx, hy, hT⟩ := hc 0 T rfl
            cases (Option.some.inj hx)
            cases (Option.some.inj hy)
            refine .cons (.tup (.inl (.inl ?_)) (.cons (a1.mono eG) (.cons (a2.mono eG) .nil))) (ih _ _ _ _ t1 t2 (by simpa using e1) (by simpa using e2) (fun U hU => hm U (List.mem_cons_of_mem _ hU)) fun j U hU => hc (j + 1) U hU)
            show (if T ∈ Ts then H2 T else G1 T) = _
            rw [if_pos (hm T List.mem_cons_self)]
            exact hT
    exact pairs Ts xs ys ds es ha hb hlen (by rw [ha.len, hb.len, hl]) (fun T h => h) hc
end
end Kd

/-! Kd, part I: a name that holds a zip. -/
namespace Kd
open PySem PySem.Spec PyProof.Rows L2 Evl

/-- things known by one object each may be forgotten -/
theorem inv_forget {X : Cx} {pins : List (Addr × Obj)} {σ : L2.St} {H H' : Hp} {s : Shared} (I : Inv X pins σ H s) (k : ∀ b, H' b = none ∨ H' b = H b) (e : ∀ b u, H b = some u → H' b = none → ∃ φ, u = .ext φ) : Inv X pins σ H' s := by
  have other : ∀ b u, H b = some u → (∀ ψ, u ≠ .ext ψ) → H' b = some u := fun b u q n => by
    rcases k b with z | z
    · obtain ⟨φ, eq⟩ := e b u q z
      exact absurd eq (n φ)
    · rw [z]
      exact q
  have back : ∀ b u, H' b = some u → H b = some u := fun b u q => by
    rcases k b with z | z
    · rw [z] at q
      cases q
    · rw [← z]
      exact q
  have non : ∀ b, H b = none → H' b = none := fun b q => by
    rcases k b with z | z
    · exact z
    · rw [z]
      exact q
  have hok : HOk X.prog X.w H' s.heap := fun b u q => (I.hok b u (back b u q)).stay (fun _ _ _ z => z) (fun c z => other c _ z fun _ w => (nomatch w)) fun c xs z => other c _ z fun _ w => (nomatch w)
  have u : Un X.fs [] H H' s.heap s.heap := ⟨fun _ _ e _ _ _ => e, fun _ o e _ _ _ => ⟨o.slots, e⟩, fun b _ _ z _ => non b z, fun _ o e _ => ⟨o, e⟩, fun b xs z => other b _ z fun _ w => (nomatch w),
    fun b o x z => other b _ z fun _ w => (nomatch w), fun b ps z => ⟨#[], by rw [other b _ z fun _ w => (nomatch w)]; simp⟩⟩
  exact I.un (t' := s.toks) u hok
theorem inv_young {X : Cx} {pins : List (Addr × Obj)} {σ : L2.St} {H H' : Hp} {s : Shared} {a : Addr} {u : HO} (I : Inv X pins σ H s) (h : H a = some u) (hn : X.s_0.heap.objs.size ≤ a) (h' : H' a = none) : FpOk X pins H' a := by
  refine ⟨h', fun z => ?_, fun z => ?_, .inr hn, fun x c e z => ?_, fun p hp z => ?_⟩
  · rw [z, I.free] at h
    cases h
  · obtain ⟨_, o, ho, _⟩ := I.ok.funs.mem z
    exact absurd (Nat.lt_of_lt_of_le (Heap.lt_size ho) hn) (Nat.lt_irrefl _)
  · have q := I.freeC x c e
    rw [z, h] at q
    cases q
  · have q := (I.pin p hp).2.1
    rw [z, h] at q
    cases q
/-- H, a new zip's five objects told -/
def zipH (H : Hp) (z TI TO i1 i2 a b : Addr) : Hp :=
  upd (upd (upd (upd (upd H z (.ext fun h => IsZip h z TI TO .none)) TI (.ext fun h => IsPair h TI (.ref i1) (.ref i2))) TO (.ext fun h => ∃ x y, IsPair h TO x y)) i1 (.ext fun h => h.IsListIter i1 a 0)) i2 (.ext fun h => h.IsListIter i2 b 0)
def NewZip (n : Nat) (H : Hp) (z TI TO i1 i2 a b : Addr) : Prop := ZipApart z TI TO i1 i2 a b ∧ (H z = none ∧ H TI = none ∧ H TO = none ∧ H i1 = none ∧ H i2 = none) ∧ n ≤ z ∧ n ≤ TI ∧ n ≤ TO ∧ n ≤ i1 ∧ n ≤ i2
section
variable {H : Hp} {n : Nat} {z TI TO i1 i2 a b : Addr}
theorem NewZip.at (N : NewZip n H z TI TO i1 i2 a b) : zipH H z TI TO i1 i2 a b z = some (.ext fun h => IsZip h z TI TO .none) ∧ zipH H z TI TO i1 i2 a b TI = some (.ext fun h => IsPair h TI (.ref i1) (.ref i2)) ∧
    zipH H z TI TO i1 i2 a b TO = some (.ext fun h => ∃ x y, IsPair h TO x y) ∧ zipH H z TI TO i1 i2 a b i1 = some (.ext fun h => h.IsListIter i1 a 0) ∧ zipH H z TI TO i1 i2 a b i2 = some (.ext fun h => h.IsListIter i2 b 0) := by
  have D := N.1
  unfold zipH
  refine ⟨?_, ?_, ?_, ?_, upd_same⟩
  · rw [upd_ne (Ne.symm D.i2z), upd_ne (Ne.symm D.i1z), upd_ne (Ne.symm D.TOz), upd_ne (Ne.symm D.TIz), upd_same]
  · rw [upd_ne D.TIi2, upd_ne D.TIi1, upd_ne D.TITO, upd_same]
  · rw [upd_ne D.TOi2, upd_ne D.TOi1, upd_same]
  · rw [upd_ne D.i12, upd_same]
theorem zipH_other {c : Addr} (h : c ≠ z ∧ c ≠ TI ∧ c ≠ TO ∧ c ≠ i1 ∧ c ≠ i2) : zipH H z TI TO i1 i2 a b c = H c := by
  unfold zipH
  rw [upd_ne h.2.2.2.2, upd_ne h.2.2.2.1, upd_ne h.2.2.1, upd_ne h.2.1, upd_ne h.1]
theorem zip_cases (c z TI TO i1 i2 : Addr) : c = z ∨ c = TI ∨ c = TO ∨ c = i1 ∨ c = i2 ∨ (c ≠ z ∧ c ≠ TI ∧ c ≠ TO ∧ c ≠ i1 ∧ c ≠ i2) := by
  by_cases h1 : c = z
  · exact .inl h1
  by_cases h2 : c = TI
  · exact .inr (.inl h2)
  by_cases h3 : c = TO
  · exact .inr (.inr (.inl h3))
  by_cases h4 : c = i1
  · exact .inr (.inr (.inr (.inl h4)))
  by_cases h5 : c = i2
  · exact .inr (.inr (.inr (.inr (.inl h5))))
  exact .inr (.inr (.inr (.inr (.inr ⟨h1, h2, h3, h4, h5⟩))))
end
def tZipV (K : PySem.W.Frag) (n : Nat) (ta : TA) : TE := fun σ H Q => ta σ H fun vs H1 => ∃ a b xs ys, vs = [.ref a, .ref b] ∧ SqL K H1 a xs ∧ SqL K H1 b ys ∧ ∀ z TI TO i1 i2, NewZip n H1 z TI TO i1 i2 a b → Q (.ref z) (zipH H1 z TI TO i1 i2 a b)
def iZipV (K : PySem.W.Frag) (n k : Nat) : TI := fun σ H R => ∃ z TI TO i1 i2 a b H1, σ[k]? = some (some (.ref z)) ∧ NewZip n H1 z TI TO i1 i2 a b ∧ H = zipH H1 z TI TO i1 i2 a b ∧ R (Itz K a b) H1
section
variable {X : Cx}
theorem pe_zipV {e e2 : Expr} {ta : TA} {p pos : Pos} (hg : Gl X "zip") (hm : X.mg "zip" = none) (ha : PA X [e, e2] ta)
    (hs : starEach [e, e2] X.env = (false, eval e X.env) :: starEach [e2] X.env := by rfl) (hpl : (backTo pos (starEach [e2] X.env)).any (·.1) = false := by rfl) :
    PE X (.Call (.Name "zip" p) [e, e2] [] pos) (tZipV X.K X.s_0.heap.objs.size ta) := by
  refine ⟨fun pins s σ H Q I h => ?_⟩
  refine Call_ (ld_blt I hg hm PyProof.Rows.boot_zip (PyProof.Rows.callWith_type1 (thn (ha.run pos pins s σ H _ I h) fun us s1 ⟨vs, H1, I1, r1, q1⟩ => ?_) hs hpl))
  obtain ⟨a, b, xs, ys, ex, hqx, hqy, q⟩ := q1
  subst ex
  cases r1 with
  | cons r rr =>
  cases rr with
  | cons r' rr =>
  cases rr
  cases r
  cases r'
  obtain ⟨its, rv, p1, _⟩ := I1.list hqx
  obtain ⟨its2, rv2, p2', _⟩ := I1.list hqy
  have la : a < s1.heap.objs.size := p1.lt
  have lb : b < s1.heap.objs.size := p2'.lt
  refine call_zip_2 p1.isList p2'.isList fun h' hz hTI hTO h1 h2 hsz hk => ?_
  have D := PySem.W.ktu_apart s1.heap.objs.size a b la lb
  have fr : ∀ i, H1 (s1.heap.objs.size + i) = none := fun i => I1.hok.fresh (Nat.le_add_right _ _)
  have N : NewZip X.s_0.heap.objs.size H1 (s1.heap.objs.size + 4) (s1.heap.objs.size + 2) (s1.heap.objs.size + 3) s1.heap.objs.size (s1.heap.objs.size + 1) a b :=
    ⟨D, ⟨fr 4, fr 2, fr 3, fr 0, fr 1⟩, Nat.le_trans I1.sz (Nat.le_add_right _ _), Nat.le_trans I1.sz (Nat.le_add_right _ _), Nat.le_trans I1.sz (Nat.le_add_right _ _), I1.sz, Nat.le_trans I1.sz (Nat.le_add_right _ _)⟩
  have I2 : Inv X pins σ H1 { s1 with heap := h' } := I1.kept (t' := s1.toks) hk
  -- the five, one by one
  have J1 := I2.take (h' := h') (t' := s1.toks) (it := s1.heap.objs.size + 4) (o := .ext fun h => IsZip h (s1.heap.objs.size + 4) (s1.heap.objs.size + 2) (s1.heap.objs.size + 3) .none) (fun b ob _ e => e) (I1.fpOk (Nat.le_add_right _ _) (fr 4))
    ⟨hz, ⟨_, hz⟩, fun x y e k => k _ e⟩
  have J2 := J1.take (h' := h') (t' := s1.toks) (it := s1.heap.objs.size + 2) (o := .ext fun h => IsPair h (s1.heap.objs.size + 2) (.ref s1.heap.objs.size) (.ref (s1.heap.objs.size + 1))) (fun b ob _ e => e)
    (I1.fpOk (Nat.le_add_right _ _) (by rw [upd_ne D.TIz]; exact fr 2)) ⟨hTI, ⟨_, hTI⟩, fun x y e k => k _ e⟩
  have J3 := J2.take (h' := h') (t' := s1.toks) (it := s1.heap.objs.size + 3) (o := .ext fun h => ∃ x y, IsPair h (s1.heap.objs.size + 3) x y) (fun b ob _ e => e)
    (I1.fpOk (Nat.le_add_right _ _) (by rw [upd_ne (Ne.symm D.TITO), upd_ne D.TOz]; exact fr 3)) ⟨⟨_, _, hTO⟩, ⟨_, hTO⟩, fun x y ⟨u, v, e⟩ k => ⟨u, v, k _ e⟩⟩
  have J4 := J3.take (h' := h') (t' := s1.toks) (it := s1.heap.objs.size) (o := .ext fun h => h.IsListIter s1.heap.objs.size a 0) (fun b ob _ e => e)
    (I1.fpOk (Nat.le_refl _) (by rw [upd_ne (Ne.symm D.TOi1), upd_ne (Ne.symm D.TIi1), upd_ne D.i1z]; exact fr 0)) ⟨h1, (let ⟨o, e, _⟩ := h1; ⟨o, e⟩), fun x y e k => e.at fun o z => k o z⟩
  have J5 := J4.take (h' := h') (t' := s1.toks) (it := s1.heap.objs.size + 1) (o := .ext fun h => h.IsListIter (s1.heap.objs.size + 1) b 0) (fun b ob _ e => e)
    (I1.fpOk (Nat.le_add_right _ _) (by rw [upd_ne (Ne.symm D.i12), upd_ne (Ne.symm D.TOi2), upd_ne (Ne.symm D.TIi2), upd_ne D.i2z]; exact fr 1)) ⟨h2, (let ⟨o, e, _⟩ := h2; ⟨o, e⟩), fun x y e k => e.at fun o z => k o z⟩
  exact ⟨.ref (s1.heap.objs.size + 4), _, J5, rfl, q _ _ _ _ _ N⟩
theorem pi_zipV {k : Nat} {x : Str} {p tpos : Pos} {elts : List Expr} {kk : Nat} (hN : X.N[k]? = some x) (hv : Vis X.env.scope x) (hd : (x == ("__debug__" : Str)) = false := by decide) (hcd : (x == ("__classdict__" : Str)) = false := by decide) :
    PI X (.Tuple elts kk tpos) (.Name x p) (iZipV X.K X.s_0.heap.objs.size k) := by
  refine ⟨fun pins s σ H R I h => ?_⟩
  obtain ⟨z, TI, TO, i1, i2, a, b, H1, hs, N, eH, q⟩ := h
  subst eH
  refine thn ((pe_var (pos := p) (i := k) hN hv hd hcd).run pins s σ _ (fun v H2 => v = .ref z ∧ H2 = zipH H1 z TI TO i1 i2 a b) I ⟨.ref z, hs, rfl, rfl⟩) fun u s1 ⟨v, H2, I1, r1, ev, eH⟩ => ?_
  subst ev
  rw [eH] at I1
  cases r1
  obtain ⟨t1, t2, t3, t4, t5⟩ := N.at
  have oz : IsZip s1.heap z TI TO .none := (show ObjOk X.prog X.w _ s1.heap z (.ext _) from I1.hok z _ t1).1
  have oTI : IsPair s1.heap TI (.ref i1) (.ref i2) := (show ObjOk X.prog X.w _ s1.heap TI (.ext _) from I1.hok TI _ t2).1
  have oTO : ∃ x y, IsPair s1.heap TO x y := (show ObjOk X.prog X.w _ s1.heap TO (.ext _) from I1.hok TO _ t3).1
  have o1 : s1.heap.IsListIter i1 a 0 := (show ObjOk X.prog X.w _ s1.heap i1 (.ext _) from I1.hok i1 _ t4).1
  have o2 : s1.heap.IsListIter i2 b 0 := (show ObjOk X.prog X.w _ s1.heap i2 (.ext _) from I1.hok i2 _ t5).1
  obtain ⟨D, ⟨n1, n2, n3, n4, n5⟩, m1, m2, m3, m4, m5⟩ := N
  have I2 : Inv X pins σ H1 s1 := by
    refine inv_forget I1 (fun c => ?_) (fun c u hc hn => ?_)
    · rcases zip_cases c z TI TO i1 i2 with e | e | e | e | e | e
      · exact .inl (by rw [e]; exact n1)
      · exact .inl (by rw [e]; exact n2)
      · exact .inl (by rw [e]; exact n3)
      · exact .inl (by rw [e]; exact n4)
      · exact .inl (by rw [e]; exact n5)
      · exact .inr (zipH_other e).symm
    · rcases zip_cases c z TI TO i1 i2 with e | e | e | e | e | e
      · rw [e, t1] at hc
        exact ⟨_, (Option.some.inj hc).symm⟩
      · rw [e, t2] at hc
        exact ⟨_, (Option.some.inj hc).symm⟩
      · rw [e, t3] at hc
        exact ⟨_, (Option.some.inj hc).symm⟩
      · rw [e, t4] at hc
        exact ⟨_, (Option.some.inj hc).symm⟩
      · rw [e, t5] at hc
        exact ⟨_, (Option.some.inj hc).symm⟩
      · rw [zipH_other e, hn] at hc
        cases hc
  refine wpAny_pyIter_zip oz ?_
  refine ⟨z, [z, TI, TO, i1, i2], _, _, H1, rfl, I2, turn_zip D, ⟨oz, oTI, oTO, o1, o2⟩, fun c hc => ?_, q⟩
  have hc' : c = z ∨ c = TI ∨ c = TO ∨ c = i1 ∨ c = i2 := by simpa using hc
  rcases hc' with e | e | e | e | e
  · rw [e]; exact inv_young I1 t1 m1 n1
  · rw [e]; exact inv_young I1 t2 m2 n2
  · rw [e]; exact inv_young I1 t3 m3 n3
  · rw [e]; exact inv_young I1 t4 m4 n4
  · rw [e]; exact inv_young I1 t5 m5 n5
end
section
variable {K : PySem.W.Frag} {ρ : Rho} {te : TE} {tt : TT}
theorem lc_at {α : Type} {m : Option Addr} {G0 H0 G1 H1 : Hp} {σ : L2.St} {g : TG} {vs : List Nat} {J : It} (S1 : Sta K m G0 H0 G1 σ H1 ρ) (xs : List α) (inj : α → PyData) (f : α → Bool) (v : α → PyData) (js : List Nat) (wk : ∀ m', Walks K m' J G1 (xs.map inj)) (hj : ∀ j ∈ js, j ∈ vs) (hz : xs.length ≤ 40000)
    (ht : ∀ x ∈ xs, ∃ ρ', GD K g (inj x) (wipeR ρ vs) ρ' js ∧ ET K tt ρ' (f x) ∧ (f x = true → EX K te ρ' (v x))) (Qv : VK)
    (q : ∀ p xs' G2 H2, Xt m G1 H1 G2 H2 → H1 p = none → G2 p = none → H2 p = some (.lst xs') → RpAll K G2 xs' ((xs.filter f).map v) → Qv (.ref p) H2) : tLc (fun _ _ R => R J H1) g tt te vs σ H1 Qv := by
    intro D hD
    refine ⟨fun i n H' => n = xs.length - i ∧ i ≤ xs.length ∧ ∃ G' acc, Xt m G1 H1 G' H' ∧ G' D = none ∧ H' D = some (.lst acc) ∧ RpAll K G' acc (((xs.take i).filter f).map v), ⟨xs.length, rfl, Nat.zero_le _, G1, [], Xt.new0 S1.xt.gh hD, fresh_back S1.xt.gh hD, upd_same, .nil⟩, ?_⟩
    rintro i n H' ⟨rfl, hi, G', acc, x', gD, hacc, ra⟩
    obtain ⟨w1, w2⟩ := wk m G' H' x'.gg x'.gh
    by_cases hlt : i < xs.length
    · have hg : (xs.map inj)[i]? = some (inj xs[i]) := by rw [List.getElem?_map, List.getElem?_eq_getElem hlt]; rfl
      obtain ⟨go, yl⟩ := w1 i _ hg
      refine .inr ⟨go, fun H2 => ∃ G2 acc, Xt m G1 H1 G2 H2 ∧ G2 D = none ∧ H2 D = some (.lst acc) ∧ RpAll K G2 acc (((xs.take (i + 1)).filter f).map v), fun H2 ⟨G2, acc, a1, a2, a3, a4⟩ => ⟨xs.length - (i + 1), by omega, rfl, hlt, G2, acc, a1, a2, a3, a4⟩, fun x H2 y => ?_⟩
      obtain ⟨G2, x2, r2⟩ := yl x H2 y
      obtain ⟨ρ', gd, et, ee⟩ := ht xs[i] (List.getElem_mem hlt)
      have S2 := ((S1.step x').step x2).wiped vs
      have pD : m ≠ some D := fun z => S1.potH D z hD
      refine gd m G0 H0 G2 _ H2 x S2 r2 _ fun σ3 S3 wq => ⟨by rw [wq vs hj, wipe_wipe fun _ h => h], ?_⟩
      refine et m G0 H0 G2 σ3 H2 S3 _ fun G4 H4 x4 => ?_
      have tk : xs.take (i + 1) = xs.take i ++ [xs[i]] := (List.take_append_getElem hlt).symm
      have x24 := (x'.trans x2).trans x4
      have gD4 : G4 D = none := x4.fr D (x2.fr D gD (by rw [hacc]; rfl)) (x2.nt D (by rw [hacc]; rfl))
      cases hf : f xs[i] with
      | true =>
        show te σ3 H4 _
        refine ee hf m G0 H0 G4 σ3 H4 (S3.step x4) _ fun yv G5 H5 x5 r5 => ?_
        have hD5 : H5 D = some (.lst acc) := x5.hh D _ pD (x4.hh D _ pD (x2.hh D _ pD hacc))
        have gD5 : G5 D = none := x5.fr D gD4 (x4.nt D (x2.nt D (by rw [hacc]; rfl)))
        refine ⟨acc, hD5, sz_lt ?_, G5, _, (x24.trans x5).mut hD gD5 S1.potH, gD5, upd_same, ?_⟩
        · rw [ra.len, List.length_map]
          have h1 := List.length_filter_le f (xs.take i)
          have h2 : (xs.take i).length ≤ i := by rw [List.length_take]; omega
          omega
        · rw [tk, List.filter_append, List.map_append, List.filter_cons, if_pos hf]
          exact (ra.mono ((x2.gg.trans x4.gg).trans x5.gg)).app (.one r5)
      | false =>
        show ∃ G2 acc, _
        refine ⟨G4, acc, x24, gD4, x4.hh D _ pD (x2.hh D _ pD hacc), ?_⟩
        rw [tk, List.filter_append, List.map_append, List.filter_cons, if_neg (by rw [hf]; decide)]
        show RpAll K G4 acc (_ ++ [])
        rw [List.append_nil]
        exact ra.mono (x2.gg.trans x4.gg)
    · have ei : i = xs.length := by omega
      subst ei
      rw [List.take_length] at ra
      rw [List.length_map] at w2
      exact .inl ⟨w2, q D acc G' H' x' hD gD hacc ra⟩
end
section
variable {K : PySem.W.Frag} {ρ ρ' : Rho} {te : TE} {tt : TT} {ds es : List PyData} {tA : TA} {E : DE} {i n : Nat}
/-- pairs = zip(xs, ys); return all([.. for .. in pairs]) -/
theorem sd_zipAll {g : TG} {vs : List Nat} (v : PyData × PyData → Bool) (js : List Nat) (hi : i < ρ.length) (h : EAX K tA ρ [.list ds, .list es]) (hj : ∀ j ∈ js, j ∈ vs) (hz : (ds.zip es).length ≤ 40000)
    (ht : ∀ z, ∀ x ∈ ds.zip es, ∃ ρ', GD K g (.tuple [x.1, x.2]) (wipeR (ρ.set i (.val z)) vs) ρ' js ∧ EX K te ρ' (.bool (v x))) (k : E.rt (.bool (((ds.zip es).map v).all id))) :
    SD K (tSeq (tAsg (tZipV K n tA) (gName i)) (tRet (tCB (rAll K) (tCons (tLc (iZipV K n i) g tYes te vs) tNil)))) ρ E := fun m G0 H0 G σ H D S O => by
  refine h m G0 H0 G σ H S _ fun ws G1 H1 x1 r1 => ?_
  cases r1 with
  | cons r t =>
  cases t with
  | cons r2 t =>
  cases t
  cases r with
  | @lst a xs _ hs ha =>
  cases r2 with
  | @lst b ys _ ht' hb =>
  refine ⟨a, b, xs, ys, rfl, .inl (.inl (x1.gh _ _ hs)), .inl (.inl (x1.gh _ _ ht')), fun z TI TO i1 i2 N => ?_⟩
  have S1 : Sta K m G0 H0 G1 (σ.set i (some (.ref z))) H1 (ρ.set i (.val (.ref z))) := (S.step x1).set (s := .val (.ref z)) rfl fun e => nomatch e
  have hi : i < σ.length := by rw [S.len]; exact hi
  · -- the comprehension, as over the zip itself
    have go := lc_at (K := K) (m := m) (G0 := G0) (H0 := H0) (G1 := G1) (H1 := H1) (σ := σ.set i (some (.ref z))) (ρ := ρ.set i (.val (.ref z))) (g := g) (tt := tYes) (te := te) (vs := vs) (J := Itz K a b) S1 (ds.zip es) (fun x => .tuple [x.1, x.2]) (fun _ => true) (fun x => .bool (v x)) js
      (fun m' G' H' e1 e2 => ?_) hj hz (fun x hx => ?_) (fun x H2 => tNil (σ.set i (some (.ref z))) H2 fun vs2 H3 => rAll K (x :: vs2) H3 D.rt) fun p xs' G2 H2 x2 hp g2 h2 r2 => ?_
    · exact ⟨z, TI, TO, i1, i2, a, b, H1, List.getElem?_set_self hi, N, rfl, go⟩
    · have hx : SqL K H' a xs := .inl (.inl (e2 _ _ (e1 _ _ hs)))
      have hy : SqL K H' b ys := .inl (.inl (e2 _ _ (e1 _ _ ht')))
      refine ⟨fun i d hd => ?_, ⟨xs, ys, hx, hy, ?_⟩⟩
      · rw [List.getElem?_map] at hd
        obtain ⟨p, hp, rfl⟩ := Option.map_eq_some_iff.mp hd
        obtain ⟨k1, k2⟩ := List.getElem?_zip_eq_some.mp hp
        obtain ⟨u, u1, u2⟩ := ha.get k1
        obtain ⟨w, w1, w2⟩ := hb.get k2
        refine ⟨⟨xs, ys, u, w, hx, hy, u1, w1⟩, fun x H'' y => ?_⟩
        obtain ⟨T, x', y', rfl, hT, rfl, f1, f2⟩ := y
        have ex := (f1 xs hx).symm.trans u1
        have ey := (f2 ys hy).symm.trans w1
        cases ex
        cases ey
        exact xt_pair e2 hT (u2.mono e1) (w2.mono e1)
      · rw [List.length_map, List.length_zip, ha.len, hb.len]
        omega
    · obtain ⟨ρ', gd, ee⟩ := ht (.ref z) x hx
      exact ⟨ρ', gd, et_yes, fun _ => ee⟩
    · have ef : (ds.zip es).filter (fun _ => true) = ds.zip es := List.filter_eq_self.mpr fun _ _ => rfl
      rw [ef] at r2
      have r3 : RpAll K G2 xs' ((((ds.zip es).map v)).map PyData.bool) := by
        rw [List.map_map]
        exact r2
      exact ⟨p, _, rfl, .inl (.inl (by rw [h2, r3.bools])), O.rt _ _ G2 H2 ((S.xt.trans x1).trans x2) (.bl _) k⟩
end
end Kd

/-! Kd, part J: a def by its data; isinstance; list(range(..)); a walk over a list or a tuple. -/
namespace Kd
open PySem PySem.Spec PyProof.Rows L2 Evl

section
variable {K : PySem.W.Frag} {t : TS}
theorem ArgsOk.len {m : Option Addr} {G : Hp} : ∀ {vs : List V} {ss : List Sl}, ArgsOk K m G vs ss → vs.length = ss.length
  | _, _, .nil => rfl
  | _, _, .cons _ h => congrArg (· + 1) h.len
theorem ArgsOk.get {m : Option Addr} {G : Hp} : ∀ {vs : List V} {ss : List Sl} {i : Nat} {s : Sl}, ArgsOk K m G vs ss → ss[i]? = some s → ∃ v, vs[i]? = some v ∧ ArgOk K m G v s
  | _, _, 0, _, .cons h _, e => ⟨_, rfl, by cases Option.some.inj e; exact h⟩
  | _, _, i + 1, _, .cons _ h, e => h.get (i := i) e
theorem sd_run {m : Option Addr} {G H : Hp} {N : List Str} {vs : List V} {ss : List Sl} {P : PyData → Prop} {Q : VK} (h : SD K t (ss ++ List.replicate (N.length - ss.length) .no) ⟨fun _ => P .none, P, fun _ => False, fun _ => False⟩)
    (e : Ex G H) (hp : ∀ p, m = some p → G p = none ∧ PotAt H p) (ha : ArgsOk K m G vs ss) (hl : ss.length ≤ N.length) (q : ∀ v d G2 H2, Xt m G H G2 H2 → Rp K G2 v d → P d → Q v H2) : t { nx := fun _ H' => Q .non H', rt := Q } (start N vs) H := by
  have hlen := ha.len
  have st : Sta K m G H G (start N vs) H (ss ++ List.replicate (N.length - ss.length) .no) := by
    refine ⟨Xt.refl e, fun p ep => ?_, ?_, fun i s es => ?_, fun i j s t p e1 e2 o1 o2 _ _ => ?_⟩
    · obtain ⟨h1, h2⟩ := hp p ep
      refine ⟨h1, ?_, h2⟩
      obtain ⟨_, _, _, _, _, h3⟩ := h2
      rw [h3]
      exact fun z => nomatch z
    · unfold L2.start
      rw [List.length_append, List.length_append, List.length_map, List.length_replicate, List.length_replicate, hlen]
    · by_cases hi : i < ss.length
      · rw [List.getElem?_append_left hi] at es
        obtain ⟨v, h1, h2⟩ := ha.get es
        have e3 : (start N vs)[i]? = some (some v) := by
          unfold L2.start
          rw [List.getElem?_append_left (by rw [List.length_map, hlen]; exact hi), List.getElem?_map, h1]
          rfl
        rw [e3]
        cases s with
        | no => trivial
        | dat d => exact ⟨v, rfl, h2⟩
        | own ds => exact h2.elim
        | ownD ks ds => exact h2.elim
        | pot =>
          obtain ⟨p, h3, h4⟩ := h2
          subst h3
          exact ⟨p, rfl, h4⟩
        | val u =>
          have h2' : v = u := h2
          subst h2'
          rfl
      · rw [List.getElem?_append_right (by omega), List.getElem?_replicate] at es
        split at es
        · cases Option.some.inj es
          trivial
        · cases es
    · exfalso
      by_cases hi : i < ss.length
      · rw [List.getElem?_append_left hi] at e1
        obtain ⟨v, _, h2⟩ := ha.get e1
        cases s with
        | own ds => exact h2
        | ownD ks ds => exact h2
        | _ => exact nomatch o1
      · rw [List.getElem?_append_right (by omega), List.getElem?_replicate] at e1
        split at e1
        · cases Option.some.inj e1
          exact nomatch o1
        · cases e1
  exact h m G H G _ H _ st ⟨fun G' σ' H' ρ' S' k => q .non .none G' H' S'.xt .non k, fun v d G' H' x r k => q v d G' H' x r k, fun _ _ _ _ _ k => k.elim, fun _ _ _ _ _ k => k.elim⟩
end
section
variable {P : Program} {w : World} {K : PySem.W.Frag} {mg : Str → Option Value} {base : Heap}
theorem def_by {x : Str} {st : Stmt} {f : Addr} {fd : FuncData} {N ps : List Str} {k : Nat} {R : List Sl → (PyData → Prop) → Prop} (F : C8.Def K mg x st f fd) (bd : Binds K fd ps []) (S : FnScope N ps (C8.fnScope st)) (hN : ps.length ≤ N.length) (len : ∀ ss P, R ss P → ss.length = ps.length)
    (body : ∀ (cdv : Value) (A : Around) (outer : List Env) (s : Shared) (H : Hp) (E : XK), Room k (A.deeper (envOfC x (C8.fnScope st) s.heap.objs.size f cdv)) →
      ∃ t, PSs (cxOf C8.CX0 P w K mg base N x (C8.fnScope st) f cdv A outer s H E).nox (C8.fnBody st) t ∧ ∀ ss Pd, R ss Pd → SD K t (ss ++ List.replicate (N.length - ss.length) .no) ⟨fun _ => Pd .none, Pd, fun _ => False, fun _ => False⟩) :
    C8.Cal P w K mg base (k + 1) x (spR K R) [] := by
  refine C8.cal0 F bd .nil S (fun vs H Q E h => ?_) fun cdv A outer s H vs Q E hr h => ?_
  · obtain ⟨m, G, ss, Pd, _, _, ha, hR, _⟩ := h
    rw [ha.len, len ss Pd hR]
  · obtain ⟨m, G, ss, Pd, eG, hp, ha, hR, q⟩ := h
    obtain ⟨t, pt, sd⟩ := body cdv A outer s H E hr
    exact ⟨t, pt, sd_run (sd ss Pd hR) eG hp ha (by rw [len ss Pd hR]; exact hN) q⟩
end
/-- the built-in names are the built-ins -/
structure BI (mg : Str → Option Value) : Prop where
  len : mg "len" = none
  all : mg "all" = none
  any : mg "any" = none
  sum : mg "sum" = none
  min : mg "min" = none
  max : mg "max" = none
  sorted : mg "sorted" = none
  abs : mg "abs" = none
  divmod : mg "divmod" = none
  isinstance : mg "isinstance" = none
  int : mg "int" = none
  bool : mg "bool" = none
  list : mg "list" = none
  tuple : mg "tuple" = none
  zip : mg "zip" = none
  enumerate : mg "enumerate" = none
  range : mg "range" = none
def topS (i : Nat) : Stmt := PySem.Challenge.pw_lowerboards_k47_whole_layings_beyond_by.main.body.getD i (.Pass ⟨0, 0, 0, 0⟩)

section
variable {K : PySem.W.Frag} {ρ : Rho} {te : TE} {d : PyData} {ds : List PyData}
/-! ### isinstance -/
def tyD : PyData → String
  | .none => "NoneType"
  | .bool _ => "bool"
  | .int _ => "int"
  | .str _ => "str"
  | .list _ => "list"
  | .tuple _ => "tuple"
  | .dict [(.none, _)] => "tuple"
  | .dict _ => "dict"
theorem Rp.ty {H : Hp} : ∀ {v : V} {d : PyData}, Rp K H v d → TyX K H v (.type (tyD d))
  | _, _, .non => .base .non
  | _, _, .bl b => .base (.bl b)
  | _, _, .int i => .base (.int i)
  | _, _, .str x => .base (.str x)
  | _, _, .lst h _ => .base (.lst h)
  | _, _, .tup h _ => by
    rcases h with (h | ⟨o, h⟩) | ⟨o, its, n, h, c, _⟩
    · exact .base (.tup h)
    · exact .fTuple h
    · exact .kTuple h c
  | _, _, .dK0 h => .base (.dK h)
  | _, _, .tkt h _ => .base (.tup h)
  | _, _, @Rp.dT _ _ _ ks _ ds _ h _ => by
    have e : tyD (.dict ((ks.map kT).zip ds)) = "dict" := by
      cases ks with
      | nil => rfl
      | cons k ks => cases ds with
        | nil => rfl
        | cons d ds => rfl
    rw [e]
    exact .base (.dT h)
theorem ex_isi {n : String} {b : Bool} (h : EX K te ρ d) (hk : kitB (tyD d) n = some b) : EX K (tCB (rIsi K) (tCons te (tCons (tC (.ty n)) tNil))) ρ (.bool b) := fun m G0 H0 G σ H S Q q => h m G0 H0 G σ H S _ fun v G1 H1 x1 r1 =>
  ⟨v, .ty n, _, .type n, b, rfl, .ty n, (r1.mono x1.gh).ty, kit_ty hk, q _ G1 H1 x1 (.bl b)⟩
theorem ex_isi2 {n1 n2 : String} {b1 b2 : Bool} (h : EX K te ρ d) (h1 : kitB (tyD d) n1 = some b1) (h2 : kitB (tyD d) n2 = some b2) :
    EX K (tCB (rIsiT K) (tCons te (tCons (tTup (tCons (tC (.ty n1)) (tCons (tC (.ty n2)) tNil))) tNil))) ρ (.bool (b1 || b2)) := fun m G0 H0 G σ H S Q q => h m G0 H0 G σ H S _ fun v G1 H1 x1 r1 => by
  refine ⟨by show 2 ≤ sizeLine; decide, fun p hp => ?_⟩
  refine ⟨v, p, [.ty n1, .ty n2], _, [.type n1, .type n2], b1 || b2, rfl, upd_same, .cons (.ty n1) (.cons (.ty n2) .nil), (r1.mono (x1.gh.trans (Ex.new hp))).ty, ?_, q _ G1 _ (x1.trans (Xt.new0 x1.gh hp)) (.bl _)⟩
  refine kitAny_cons (kit_ty h1) (fun e => ?_) (fun e => by rw [e]; rfl)
  rw [e]
  refine kitAny_cons (kit_ty h2) (fun e => ?_) (fun e => by rw [e]; rfl)
  rw [e]
  exact kitAny_nil
/-! ### list(range(..)) -/
theorem el_rg1 {n : Int} (h : EX K te ρ (.int n)) (hn : 0 ≤ n ∧ n ≤ 100000) : EL K (tLstRg (tRg1 te)) ρ (rngD 0 n.toNat) := fun m G0 H0 G σ H S Q q => h m G0 H0 G σ H S _ fun v G1 H1 x1 r1 => by
  cases r1
  refine ⟨n, rfl, RgOk.of_le (by omega) (by omega) (by omega) (by omega), fun p hp => q p _ G1 _ (x1.trans (Xt.new0 x1.gh hp)) (x1.freeB hp) (fresh_back x1.gh hp) upd_same ?_⟩
  unfold rgV rngD
  rw [Int.sub_zero]
  generalize List.range n.toNat = l
  induction l with
  | nil => exact .nil
  | cons a l ih => exact .cons (.int _) ih
theorem el_rg2 {tb : TE} {a n : Int} (h : EX K te ρ (.int a)) (h2 : EX K tb ρ (.int n)) (hn : (0 ≤ a ∧ a ≤ 100000) ∧ 0 ≤ n ∧ n ≤ 100000) : EL K (tLstRg (tRg2 te tb)) ρ (rngD a (n - a).toNat) := fun m G0 H0 G σ H S Q q => h m G0 H0 G σ H S _ fun v G1 H1 x1 r1 => h2 m G0 H0 G1 σ H1 (S.step x1) _ fun u G2 H2 x2 r2 => by
  cases r1
  cases r2
  refine ⟨a, n, rfl, rfl, RgOk.of_le (by omega) (by omega) (by omega) (by omega), fun p hp => q p _ G2 _ ((x1.trans x2).trans (Xt.new0 x2.gh hp)) ((x1.trans x2).freeB hp) (fresh_back x2.gh hp) upd_same ?_⟩
  unfold rgV rngD
  generalize List.range (n - a).toNat = l
  induction l with
  | nil => exact .nil
  | cons b l ih => exact .cons (.int _) ih
/-! ### a list or a tuple walked -/
def iSeq (K : PySem.W.Frag) (tl : TE) : TI := fun σ H R => tl σ H fun x H1 => ∃ a, x = .ref a ∧ (((∃ xs, SqL K H1 a xs) ∧ R (Itl K a) H1) ∨ ((∃ xs, SqT K H1 a xs) ∧ R (Itt K a) H1))
theorem pi_seq {X : Cx} {tg l : Expr} {tl : TE} (hl : PE X l tl) : PI X tg l (iSeq X.K tl) := by
  refine ⟨fun pins s σ H R I h => ?_⟩
  refine thn (hl.run pins s σ H _ I h) fun v s1 ⟨x, H1, I1, r1, a, ex, q⟩ => ?_
  subst ex
  cases r1
  have go : ∀ {wi : TI}, PI (X.wish X.xe) tg l wi → True := fun _ => trivial
  rcases q with ⟨⟨xs, hx⟩, q⟩ | ⟨⟨xs, hx⟩, q⟩
  · obtain ⟨its, rv, p, _⟩ := I1.list hx
    refine wpAny_pyIter_list p.isList ?_
    have I2 : Inv X pins σ H1 { s1 with heap := s1.heap.push { cls := .type "list_iterator", data := .fields #[.ref a, .int 0 0] } } := I1.kept (t' := s1.toks) fun b u e => Heap.get?_push_of_some _ e
    exact ⟨s1.heap.objs.size, [s1.heap.objs.size], _, _, H1, rfl, I2, turn_list a s1.heap.objs.size, ⟨_, Heap.get?_push_size _ rfl, rfl, rfl⟩, fun b hb => by rw [List.mem_singleton.mp hb]; exact I1.fpOk (Nat.le_refl _) (I1.hok.fresh (Nat.le_refl _)), q⟩
  · obtain ⟨its, rv, p, _⟩ := I1.tuple hx
    refine wpAny_pyIter_tuple (show s1.heap.IsTuple a its.toArray from p) ?_
    have I2 : Inv X pins σ H1 { s1 with heap := s1.heap.push { cls := .type "tuple_iterator", data := .fields #[.ref a, .int 0 0] } } := I1.kept (t' := s1.toks) fun b u e => Heap.get?_push_of_some _ e
    exact ⟨s1.heap.objs.size, [s1.heap.objs.size], _, _, H1, rfl, I2, turn_tuple a s1.heap.objs.size, ⟨_, Heap.get?_push_size _ rfl, rfl, rfl⟩, fun b hb => by rw [List.mem_singleton.mp hb]; exact I1.fpOk (Nat.le_refl _) (I1.hok.fresh (Nat.le_refl _)), q⟩
theorem iw_seqL (h : EX K te ρ (.list ds)) : IW K (iSeq K te) ρ fun es => es = ds := fun m G0 H0 G σ H S R q => by
  have g := iw_list h m G0 H0 G σ H S R q
  refine h m G0 H0 G σ H S _ fun v G1 H1 x1 r1 => ?_
  cases r1 with
  | @lst a xs _ hs ha =>
    refine ⟨a, rfl, .inl ⟨⟨xs, .inl (.inl (x1.gh _ _ hs))⟩, q _ ds G1 H1 x1 (fun m' G' H' e1 e2 => ⟨fun i d hd => ?_, ?_⟩) rfl⟩⟩
    · obtain ⟨v, h1, h2⟩ := ha.get hd
      have hq : SqL K H' a xs := .inl (.inl (e2 _ _ (e1 _ _ hs)))
      refine ⟨⟨xs, v, hq, h1⟩, fun x H'' y => ?_⟩
      obtain ⟨e, y⟩ := y
      subst e
      have ev := (y xs hq).symm.trans h1
      cases ev
      exact ⟨G', Xt.refl e2, h2.mono e1⟩
    · exact ⟨xs, .inl (.inl (e2 _ _ (e1 _ _ hs))), by rw [ha.len]; exact Nat.le_refl _⟩
theorem iw_seqT (h : EX K te ρ (.tuple ds)) : IW K (iSeq K te) ρ fun es => es = ds := fun m G0 H0 G σ H S R q => by
  refine h m G0 H0 G σ H S _ fun v G1 H1 x1 r1 => ?_
  cases r1 with
  | @tup a xs _ hs ha =>
    refine ⟨a, rfl, .inr ⟨⟨xs, ex_t x1.gh hs⟩, q _ ds G1 H1 x1 (fun m' G' H' e1 e2 => ⟨fun i d hd => ?_, ?_⟩) rfl⟩⟩
    · obtain ⟨v, h1, h2⟩ := ha.get hd
      have hq : SqT K H' a xs := ex_t (e1.trans e2) hs
      refine ⟨⟨xs, v, hq, h1⟩, fun x H'' y => ?_⟩
      obtain ⟨e, y⟩ := y
      subst e
      have ev := (y xs hq).symm.trans h1
      cases ev
      exact ⟨G', Xt.refl e2, h2.mono e1⟩
    · exact ⟨xs, ex_t (e1.trans e2) hs, by rw [ha.len]; exact Nat.le_refl _⟩
theorem rcl_sortedAnyL {ns : List Int} (hz : ns.length < 64) : RCL K (rSortedAny K) [.list (ns.map PyData.int)] ((isort ns).map PyData.int) := fun m G H vs e r Q q => .inl (rcl_sorted hz m G H vs e r Q q)
theorem rcl_sortedAnyT {ns : List Int} (hz : ns.length < 64) : RCL K (rSortedAny K) [.tuple (ns.map PyData.int)] ((isort ns).map PyData.int) := fun m G H vs e r Q q => .inr (rcl_sortedTup hz m G H vs e r Q q)
end
end Kd

/-! Kd, part K: new tuples as keys, dicts of our own, two places of a list set at once. -/
namespace Kd
open PySem PySem.Spec PyProof.Rows L2 Evl

section
variable {K : PySem.W.Frag} {ρ : Rho} {te ta tb ty tv tk tl : TE} {tA : TA} {d e z : PyData} {ds es : List PyData} {i j : Nat} {E : DE} {k : List Key} {ks : List (List Key)} {P : PyData → Prop}
theorem ex_untrk (h : EX K te ρ (trk ds)) : EX K te ρ (.tuple ds) := fun m G0 H0 G σ H S Q q => h m G0 H0 G σ H S Q fun v G2 H2 x r => q v G2 H2 x r.untrk
theorem ex_tupt (h : EAX K tA ρ ds) (hz : ds.length ≤ 100000) : EX K (tTup tA) ρ (trk ds) := fun m G0 H0 G σ H S Q q =>
  h m G0 H0 G σ H S _ fun vs G1 H1 x1 r1 => ⟨sz_of (by rw [r1.len]; exact hz), fun p hp => q _ _ _ (x1.trans (Xt.new x1.gh hp)) (.tkt upd_same (r1.mono (Ex.new (fresh_back x1.gh hp))))⟩
theorem rcx_tupLt : RCX K (fun xs H Q => ∃ p ys, xs = [.ref p] ∧ ((SqL K H p ys ∧ ∀ l, H l = none → Q (.ref l) (upd H l (.tup ys))) ∨ (SqT K H p ys ∧ Q (.ref p) H))) [.list ds] (trk ds) := fun m G H vs e r Q q => by
  cases r with
  | cons r t =>
    cases t
    cases r with
    | lst hs ha => exact ⟨_, _, rfl, .inl ⟨.inl (.inl (e _ _ hs)), fun l hl => q _ _ _ (Xt.new e hl) (.tkt upd_same (ha.mono (Ex.new (fresh_back e hl))))⟩⟩
theorem RpAll.keys {G : Hp} : ∀ {xs : List V} {k : List Key}, RpAll K G xs (k.map kD) → xs = k.map kV
  | [], [], .nil => rfl
  | x :: xs, y :: k, .cons h t => by
    rw [List.map_cons, ← t.keys]
    congr 1
    cases y with
    | inl i => cases h with | int => rfl
    | inr s => cases h with | str => rfl
theorem Xt.obj {m : Option Addr} {G H G2 H2 : Hp} {p : Addr} {o : HO} (x : Xt m G H G2 H2) (hp : H p = none) (g2 : G2 p = none) (h2 : H2 p = some o) : Xt m G H (upd G2 p o) H2 := by
  refine ⟨x.gg.trans (Ex.new g2), x.hh, fun a u e => ?_, fun a g k => ?_, x.nn, x.pt, x.nt⟩
  · by_cases z : a = p
    · subst z
      rw [upd_same] at e
      rw [h2]
      exact e
    · rw [upd_ne z] at e
      exact x.gh a u e
  · have z : a ≠ p := fun z => by rw [z, hp] at k; exact nomatch k
    rw [upd_ne z]
    exact x.fr a g k
/-! ### two places of our list -/
theorem sd_swap {ds : List PyData} {n1 n2 : Int} {k1 k2 : Nat} (hi : ρ[i]? = some (.own ds)) (ha : EX K ta ρ d) (hb : EX K tb ρ e) (hx : EX K tk ρ (.int n1)) (h1 : ixN ds.length n1 = some k1) (hy : EX K tl (ρ.set i (.own (ds.set k1 d))) (.int n2)) (h2 : ixN ds.length n2 = some k2)
    (q : E.nx (ρ.set i (.own ((ds.set k1 d).set k2 e)))) : SD K (tAsg (tTup (tCons ta (tCons tb tNil))) (gTup K 2 (gCons (gSub (tVar i) tk rSetL) (gCons (gSub (tVar i) tl rSetL) gNil)))) ρ E := fun m G0 H0 G σ H D S O => by
  obtain ⟨p, xs, f1, f2, f3, f4, f5⟩ := S.sl i _ hi
  have hv := join_some f1
  have hil : i < ρ.length := (List.getElem?_eq_some_iff.mp hi).1
  refine ha m G0 H0 G σ H S _ fun v G1 H1 x1 r1 => hb m G0 H0 G1 σ H1 (S.step x1) _ fun w G2 H2 x2 r2 => ?_
  refine ⟨by show 2 ≤ sizeLine; decide, fun t ht => ?_⟩
  have x3 := Xt.new (m := m) (o := .tup [v, w]) x2.gh ht
  have S3 := ((S.step x1).step x2).step x3
  refine ⟨t, [v, w], rfl, .inl (.inl upd_same), rfl, v, [w], rfl, .ref p, hv, hx m G0 H0 _ σ _ S3 _ fun u G4 H4 x4 r4 => ?_⟩
  cases r4
  have x14 := ((x1.trans x2).trans x3).trans x4
  have nm : m ≠ some p := fun z => (S.pt p z).2.1 f3
  have f4' := x14.hh p _ nm f4
  have g4 := x14.fr p f2 (by rw [f4]; rfl)
  refine ⟨p, xs, n1, k1, rfl, rfl, f4', by rw [f5.len]; exact h1, ?_⟩
  have S4 := S.step x14
  have r1' : Rp K G4 v d := r1.mono ((x2.trans x3).trans x4).gg
  have S5 := S4.mut (o := .lst (xs.set k1 v)) (t := .own (ds.set k1 d)) hi rfl hv g4 f3 (by rw [f4']; exact fun z => nomatch z) (show SlOk K m H0 _ _ _ (.own _) from ⟨p, _, rfl, g4, f3, upd_same, (f5.mono x14.gg).set r1' k1⟩)
  refine ⟨w, [], rfl, .ref p, hv, hy m G0 H0 G4 σ _ S5 _ fun u2 G6 H6 x6 r6 => ?_⟩
  cases r6
  have f6 := x6.hh p _ nm upd_same
  have g6 := x6.fr p g4 (by rw [upd_same]; rfl)
  refine ⟨p, xs.set k1 v, n2, k2, rfl, rfl, f6, by rw [List.length_set, f5.len]; exact h2, rfl, ?_⟩
  have S6 := S5.step x6
  have r2' : Rp K G6 w e := (r2.mono (x3.trans x4).gg).mono x6.gg
  have hset : ((ρ.set i (.own (ds.set k1 d))).set i (.own ((ds.set k1 d).set k2 e))) = ρ.set i (.own ((ds.set k1 d).set k2 e)) := List.set_set _
  rw [← hset] at q
  exact O.nx G6 σ _ _ (S6.mut (i := i) (s := .own (ds.set k1 d)) (by rw [List.getElem?_set_self hil]) rfl hv g6 f3 (by rw [f6]; exact fun z => nomatch z) (show SlOk K m H0 _ _ _ (.own _) from ⟨p, _, rfl, g6, f3, upd_same, ((f5.mono (x14.gg.trans x6.gg)).set (r1'.mono x6.gg) k1).set r2' k2⟩)) q
/-! ### dicts of our own -/
def dictAt (ks : List (List Key)) (ds : List PyData) (k : List Key) : Option PyData := ((ks.zip ds).find? fun kv => decide (kv.1 = k)).map (·.2)
theorem dictAt_rp {G : Hp} : ∀ {ks : List (List Key)} {xs : List V} {ds : List PyData} {k : List Key} {d : PyData}, ks.length = xs.length → RpAll K G xs ds → dictAt ks ds k = some d → ∃ v, valV (ks.zip xs) k = some v ∧ Rp K G v d
  | [], _, _, _, _, _, _, e => nomatch e
  | q :: ks, [], _, _, _, l, _, _ => nomatch l
  | q :: ks, x :: xs, _, k, d, l, .cons (d := y) (ds := ys) h t, e => by
    unfold dictAt at e
    rw [List.zip_cons_cons] at e ⊢
    by_cases z : q = k
    · rw [List.find?_cons_of_pos (by simpa using z)] at e
      cases Option.some.inj e
      exact ⟨x, valV_pos z, h⟩
    · rw [List.find?_cons_of_neg (by simpa using z)] at e
      obtain ⟨v, h1, h2⟩ := dictAt_rp (ks := ks) (by simpa using l) t (k := k) (d := d) e
      exact ⟨v, by rw [valV_neg (p := (q, x)) z]; exact h1, h2⟩
theorem keys_zip {α β : Type} : ∀ {ks : List α} {xs : List β}, ks.length = xs.length → (ks.zip xs).map (·.1) = ks
  | [], _, _ => rfl
  | k :: ks, [], l => nomatch l
  | k :: ks, x :: xs, l => by rw [List.zip_cons_cons, List.map_cons, keys_zip (by simpa using l)]
def hasK (ks : List (List Key)) (k : List Key) : Bool := ks.any fun q => decide (q = k)
theorem any_key {β : Type} {k : List Key} : ∀ {ks : List (List Key)} {xs : List β}, ks.length = xs.length → ((ks.zip xs).any fun kv => decide (kv.1 = k)) = hasK ks k
  | [], _, _ => rfl
  | q :: ks, [], l => nomatch l
  | q :: ks, x :: xs, l => by
    rw [List.zip_cons_cons, List.any_cons, any_key (by simpa using l)]
    rfl
theorem repl_zip {k : List Key} {v : V} : ∀ {ks : List (List Key)} {xs : List V}, ks.length = xs.length → ∃ ys : List V, ys.length = xs.length ∧ ((ks.zip xs).map fun kv => if kv.1 = k then (kv.1, v) else kv) = ks.zip ys ∧ ∀ (i : Nat) (y : V), ys[i]? = some y → y = v ∨ xs[i]? = some y
  | [], [], _ => ⟨[], rfl, rfl, fun _ _ e => nomatch e⟩
  | [], x :: xs, l => nomatch l
  | q :: ks, [], l => nomatch l
  | q :: ks, x :: xs, l => by
    obtain ⟨ys, h1, h2, h3⟩ := repl_zip (k := k) (v := v) (ks := ks) (xs := xs) (by simpa using l)
    rw [List.zip_cons_cons, List.map_cons, h2]
    by_cases z : q = k
    · refine ⟨v :: ys, by simp [h1], ?_, fun i y e => ?_⟩
      · show (if q = k then (q, v) else (q, x)) :: _ = _
        rw [if_pos z]; rfl
      · cases i with
        | zero => left; exact (Option.some.inj e).symm
        | succ i => exact h3 i y e
    · refine ⟨x :: ys, by simp [h1], ?_, fun i y e => ?_⟩
      · show (if q = k then (q, v) else (q, x)) :: _ = _
        rw [if_neg z]; rfl
      · cases i with
        | zero => right; exact e
        | succ i => exact h3 i y e
theorem RpAll.of_get {G : Hp} : ∀ {xs : List V} {ds : List PyData}, xs.length = ds.length → (∀ (i : Nat) (x : V) (d : PyData), xs[i]? = some x → ds[i]? = some d → Rp K G x d) → RpAll K G xs ds
  | [], [], _, _ => .nil
  | [], _ :: _, l, _ => nomatch l
  | _ :: _, [], l, _ => nomatch l
  | x :: xs, d :: ds, l, h => .cons (h 0 x d rfl rfl) (RpAll.of_get (by simpa using l) fun i y e h1 h2 => h (i + 1) y e h1 h2)
theorem own_key {m : Option Addr} {G H : Hp} {v : V} (x : Ex G H) (r : Rp K G v (trk (k.map kD))) : ∃ b, v = .ref b ∧ H b = some (.tup (k.map kV)) := by
  obtain ⟨b, xs, e1, e2, e3⟩ := r.trk_at
  exact ⟨b, e1, by rw [← e3.keys]; exact x _ _ e2⟩
/-- d[k] = v, k new -/
theorem sd_dputN (hi : ρ[i]? = some (.ownD ks ds)) (hv : EX K tv ρ d) (hk : EX K ty ρ (trk (k.map kD))) (hn : hasK ks k = false) (hz : ks.length < 100000) (q : E.nx (ρ.set i (.ownD (ks ++ [k]) (ds ++ [d])))) : SD K (sDPut (tVar i) ty tv) ρ E := fun m G0 H0 G σ H D S O => by
  obtain ⟨p, xs, f1, f2, f3, fl, f4, f5⟩ := S.sl i _ hi
  have hp := join_some f1
  refine hv m G0 H0 G σ H S _ fun v G1 H1 x1 r1 => ⟨.ref p, hp, hk m G0 H0 G1 σ H1 (S.step x1) _ fun w G2 H2 x2 r2 => ?_⟩
  obtain ⟨b, rfl, hb⟩ := own_key (m := m) x2.gh r2
  have x := x1.trans x2
  have nm : m ≠ some p := fun z => (S.pt p z).2.1 f3
  have f4' := x.hh p _ nm f4
  have g2 := x.fr p f2 (by rw [f4]; rfl)
  have hl : (ks.zip xs).length < sizeLine := by rw [List.length_zip, ← fl, Nat.min_self]; exact sz_lt hz
  refine ⟨p, _, rfl, DPut.t f4' hb hl, ?_⟩
  have e1 : putK (ks.zip xs) k v = (ks ++ [k]).zip (xs ++ [v]) := by
    unfold putK
    rw [any_key fl, hn, if_neg (by decide), List.zip_append fl]
    rfl
  rw [e1]
  exact O.nx G2 σ _ _ ((S.step x).mut hi rfl hp g2 f3 (by rw [f4']; exact fun z => nomatch z) (show SlOk K m H0 _ _ _ (.ownD _ _) from ⟨p, _, rfl, g2, f3, by simp [fl], upd_same, (f5.mono x.gg).app (.one (r1.mono x2.gg))⟩)) q
/-- .. k there; all hold the same -/
theorem sd_dputE (hi : ρ[i]? = some (.ownD ks (ks.map fun _ => d))) (hv : EX K tv ρ d) (hk : EX K ty ρ (trk (k.map kD))) (hn : hasK ks k = true) (hz : ks.length < 100000) (q : E.nx ρ) : SD K (sDPut (tVar i) ty tv) ρ E := fun m G0 H0 G σ H D S O => by
  obtain ⟨p, xs, f1, f2, f3, fl, f4, f5⟩ := S.sl i _ hi
  have hp := join_some f1
  refine hv m G0 H0 G σ H S _ fun v G1 H1 x1 r1 => ⟨.ref p, hp, hk m G0 H0 G1 σ H1 (S.step x1) _ fun w G2 H2 x2 r2 => ?_⟩
  obtain ⟨b, rfl, hb⟩ := own_key (m := m) x2.gh r2
  have x := x1.trans x2
  have nm : m ≠ some p := fun z => (S.pt p z).2.1 f3
  have f4' := x.hh p _ nm f4
  have g2 := x.fr p f2 (by rw [f4]; rfl)
  have hl : (ks.zip xs).length < sizeLine := by rw [List.length_zip, ← fl, Nat.min_self]; exact sz_lt hz
  refine ⟨p, _, rfl, DPut.t f4' hb hl, ?_⟩
  obtain ⟨ys, y1, y2, y3⟩ := repl_zip (k := k) (v := v) fl
  have e1 : putK (ks.zip xs) k v = ks.zip ys := by
    unfold putK
    rw [any_key fl, hn, if_pos rfl, y2]
  rw [e1]
  have e2 : ρ.set i (.ownD ks (ks.map fun _ => d)) = ρ := by
    obtain ⟨h, e⟩ := List.getElem?_eq_some_iff.mp hi
    rw [← e, List.set_getElem_self]
  have hys : RpAll K G2 ys (ks.map fun _ => d) := RpAll.of_get (by rw [y1, List.length_map, fl]) fun i y d' h1 h2 => by
    rw [List.getElem?_map] at h2
    obtain ⟨_, _, rfl⟩ := Option.map_eq_some_iff.mp h2
    rcases y3 i y h1 with rfl | h3
    · exact r1.mono x2.gg
    · obtain ⟨d2, k1, k2⟩ := (f5.mono x.gg).get' h3
      rw [List.getElem?_map] at k1
      obtain ⟨_, _, rfl⟩ := Option.map_eq_some_iff.mp k1
      exact k2
  have S2 := (S.step x).mut (o := .dT (ks.zip ys)) (t := .ownD ks (ks.map fun _ => d)) hi rfl hp g2 f3 (by rw [f4']; exact fun z => nomatch z) ⟨p, _, rfl, g2, f3, by rw [y1]; exact fl, upd_same, hys⟩
  rw [e2] at S2
  exact O.nx G2 σ _ _ S2 q
/-- d[k] -/
theorem ex_dgetO (hi : ρ[i]? = some (.ownD ks ds)) (hk : EX K ty ρ (trk (k.map kD))) (hd : dictAt ks ds k = some d) : EX K (tDGet (tVar i) ty) ρ d := fun m G0 H0 G σ H S Q q => by
  obtain ⟨p, xs, f1, f2, f3, fl, f4, f5⟩ := S.sl i _ hi
  refine ⟨.ref p, join_some f1, hk m G0 H0 G σ H S _ fun w G2 H2 x r2 => ?_⟩
  obtain ⟨b, rfl, hb⟩ := own_key (m := m) x.gh r2
  have nm : m ≠ some p := fun z => (S.pt p z).2.1 f3
  have f4' := x.hh p _ nm f4
  obtain ⟨v, h1, h2⟩ := dictAt_rp fl (f5.mono x.gg) hd
  exact ⟨p, v, rfl, by rw [← h1]; exact DGet.t f4' hb, q v G2 H2 x h2⟩
/-- our dict is given -/
theorem sd_retD (hi : ρ[i]? = some (.ownD ks ds)) (q : E.rt (.dict ((ks.map kT).zip ds))) : SD K (tRet (tVar i)) ρ E := fun m G0 H0 G σ H D S O => by
  obtain ⟨p, xs, f1, f2, f3, fl, f4, f5⟩ := S.sl i _ hi
  exact ⟨.ref p, join_some f1, O.rt (.ref p) _ _ H (S.xt.obj f3 f2 f4) (.dT fl upd_same (f5.mono (Ex.new f2))) q⟩
theorem kT_inj {a b : List Key} (h : kT a = kT b) : a = b := by
  unfold kT at h
  injection h with h
  revert b
  induction a with
  | nil => intro b h; cases b with
    | nil => rfl
    | cons y b => exact nomatch h
  | cons x a ih => intro b h; cases b with
    | nil => exact nomatch h
    | cons y b =>
      rw [List.map_cons, List.map_cons] at h
      injection h with h1 h2
      rw [ih h2]
      congr 1
      cases x <;> cases y <;> first | (injection h1 with h1; rw [h1]) | exact nomatch h1
theorem zip_kT : ∀ {ks ls : List (List Key)} {ds es : List PyData}, ks.length = ds.length → ls.length = es.length → (ks.map kT).zip ds = (ls.map kT).zip es → ks = ls ∧ ds = es
  | [], [], [], [], _, _, _ => ⟨rfl, rfl⟩
  | [], _ :: _, [], _ :: _, _, _, h => by simp at h
  | _ :: _, [], _ :: _, [], _, _, h => by simp at h
  | k :: ks, l :: ls, d :: ds, e :: es, h1, h2, h => by
    rw [List.map_cons, List.map_cons, List.zip_cons_cons, List.zip_cons_cons] at h
    injection h with a b
    injection a with a1 a2
    obtain ⟨c1, c2⟩ := zip_kT (by simpa using h1) (by simpa using h2) b
    rw [kT_inj a1, a2, c1, c2]
    exact ⟨rfl, rfl⟩
theorem Rp.dT_at {G : Hp} {v : V} (hl : ks.length = ds.length) (hn : ks ≠ []) (h : Rp K G v (.dict ((ks.map kT).zip ds))) : ∃ a xs, v = .ref a ∧ ks.length = xs.length ∧ G a = some (.dT (ks.zip xs)) ∧ RpAll K G xs ds := by
  have go : ∀ {d : PyData}, Rp K G v d → d = .dict ((ks.map kT).zip ds) → ∃ a xs, v = .ref a ∧ ks.length = xs.length ∧ G a = some (.dT (ks.zip xs)) ∧ RpAll K G xs ds := fun {d} r e => by
    cases r with
    | @dT a ls xs es hl' hh t =>
      injection e with e
      obtain ⟨c1, c2⟩ := zip_kT (by rw [hl', t.len]) hl e
      subst c1 c2
      exact ⟨a, xs, rfl, hl', hh, t⟩
    | dK0 _ =>
      injection e with e
      cases ks with
      | nil => exact absurd rfl hn
      | cons k ks => cases ds with
        | nil => exact nomatch hl
        | cons d ds => exact nomatch e
    | tkt _ _ =>
      injection e with e
      cases ks with
      | nil => exact absurd rfl hn
      | cons k ks => cases ds with
        | nil => exact nomatch hl
        | cons d ds =>
          rw [List.map_cons, List.zip_cons_cons] at e
          injection e with e _
          injection e with e _
          exact nomatch e
    | _ => exact nomatch e
  exact go h rfl
theorem ex_dgetD (h : EX K te ρ (.dict ((ks.map kT).zip ds))) (hl : ks.length = ds.length) (hn : ks ≠ []) (hk : EX K ty ρ (trk (k.map kD))) (hd : dictAt ks ds k = some d) : EX K (tDGet te ty) ρ d := fun m G0 H0 G σ H S Q q =>
  h m G0 H0 G σ H S _ fun u G1 H1 x1 r1 => hk m G0 H0 G1 σ H1 (S.step x1) _ fun w G2 H2 x2 r2 => by
    obtain ⟨b, rfl, hb⟩ := own_key (m := m) x2.gh r2
    obtain ⟨a, xs, rfl, fl, f4, f5⟩ := r1.dT_at hl hn
    obtain ⟨v, h1, h2⟩ := dictAt_rp fl (f5.mono x2.gg) hd
    exact ⟨a, v, rfl, by rw [← h1]; exact DGet.t (x2.gh _ _ (x2.gg _ _ f4)) hb, q v G2 H2 (x1.trans x2) h2⟩
/-- {} -/
theorem es_dnewT : ES K tDNewT ρ (.ownD [] []) := fun m G0 H0 G σ H S Q q p hp => q _ G _ (Xt.new0 S.xt.gh hp) ⟨p, [], rfl, fresh_back S.xt.gh hp, hp, rfl, upd_same, .nil⟩
end
end Kd

/-! Kd, part L: places and slices of rows of whole numbers. -/
namespace Kd
open PySem PySem.Spec PyProof.Rows L2 Evl

section
variable {K : PySem.W.Frag} {ρ : Rho} {te ta tb : TE} {tl th : TO} {tA : TA} {d e z : PyData} {ds es : List PyData} {i j : Nat} {wi : TI}
theorem ixN_nat {n k : Nat} (h : k < n) : ixN n (k : Int) = some k := by
  unfold ixN
  rw [if_pos (by omega), if_pos (by omega), Int.toNat_natCast]
theorem ixN_neg {n k : Nat} (h : k < n) : ixN n (-((k : Int) + 1)) = some (n - 1 - k) := by
  unfold ixN
  rw [if_neg (by omega), if_pos (by omega)]
  congr 1
  omega
theorem atI_nat {α : Type} {xs : List α} {k : Nat} {a : α} (h : xs[k]? = some a) : atI xs (k : Int) = some a := by
  unfold atI
  rw [ixN_nat (List.getElem?_eq_some_iff.mp h).1]
  exact h
theorem atI_map {α : Type} {f : α → PyData} {xs : List α} {k : Nat} {a : α} (h : xs[k]? = some a) : atI (xs.map f) (k : Int) = some (f a) := atI_nat (by rw [List.getElem?_map, h]; rfl)
theorem getD_some {α : Type} {xs : List α} {k : Nat} (a : α) (h : k < xs.length) : xs[k]? = some (xs.getD k a) := by
  rw [List.getD_eq_getElem?_getD, List.getElem?_eq_getElem h]
  rfl
theorem atI_int {ns : List Int} {k : Nat} (h : k < ns.length) : atI (ns.map PyData.int) (k : Int) = some (.int (ns.getD k 0)) := atI_map (getD_some 0 h)
theorem atI_last {α : Type} {xs : List α} {a : α} (h : xs.getLast? = some a) : atI xs (-1) = some a := by
  rw [List.getLast?_eq_getElem?] at h
  obtain ⟨hl, e⟩ := List.getElem?_eq_some_iff.mp h
  unfold atI
  have := ixN_neg (n := xs.length) (k := 0) (by omega)
  rw [show (-1 : Int) = -(((0 : Nat) : Int) + 1) by rfl, this]
  show xs[xs.length - 1 - 0]? = some a
  rw [Nat.sub_zero]
  exact h
/-- a row's part -/
def cutI {α : Type} (ns : List α) (lo hi : Option Int) : List α := (ns.drop (HT.sIx ns.length 0 lo)).take (HT.sIx ns.length ns.length hi - HT.sIx ns.length 0 lo)
theorem cutI_map {α β : Type} (f : α → β) (ns : List α) (lo hi : Option Int) : cutI (ns.map f) lo hi = (cutI ns lo hi).map f := by
  unfold cutI
  rw [List.length_map, List.map_take, List.map_drop]
theorem cutI_lo {α : Type} (ns : List α) (k : Nat) : cutI ns (some (k : Int)) none = ns.drop k := by
  unfold cutI
  rw [HT.sIx_nat, HT.sIx_none]
  by_cases h : k ≤ ns.length
  · rw [Nat.min_eq_left h, List.take_of_length_le (by rw [List.length_drop]; omega)]
  · rw [Nat.min_eq_right (by omega), List.drop_of_length_le (Nat.le_refl _), List.drop_of_length_le (by omega), List.take_nil]
theorem cutI_hi {α : Type} (ns : List α) (k : Nat) : cutI ns none (some (k : Int)) = ns.take k := by
  unfold cutI
  rw [HT.sIx_nat, HT.sIx_none, List.drop_zero, Nat.sub_zero]
  by_cases h : k ≤ ns.length
  · rw [Nat.min_eq_left h]
  · rw [Nat.min_eq_right (by omega), List.take_of_length_le (Nat.le_refl _), List.take_of_length_le (by omega)]
theorem cutI_both {α : Type} (ns : List α) (a b : Nat) : cutI ns (some (a : Int)) (some (b : Int)) = (ns.take b).drop a := by
  unfold cutI
  rw [HT.sIx_nat, HT.sIx_nat, List.take_drop]
  by_cases h : a ≤ ns.length
  · rw [Nat.min_eq_left h]
    by_cases hb : b ≤ ns.length
    · rw [Nat.min_eq_left hb]
      by_cases hab : a ≤ b
      · rw [show a + (b - a) = b by omega]
      · rw [show a + (b - a) = a by omega, List.drop_of_length_le (by rw [List.length_take]; omega), List.drop_of_length_le (by rw [List.length_take]; omega)]
    · rw [Nat.min_eq_right (by omega), show a + (ns.length - a) = ns.length by omega, List.take_of_length_le (Nat.le_refl _), List.take_of_length_le (l := ns) (i := b) (by omega)]
  · rw [Nat.min_eq_right (by omega), List.drop_of_length_le (by rw [List.length_take]; omega), List.drop_of_length_le (by rw [List.length_take]; omega)]
theorem ex_slI {f : Int → PyData} {ns : List Int} {lo hi : Option Int} (h : EX K te ρ (.tuple (ns.map f))) (h1 : EO K tl ρ lo) (h2 : EO K th ρ hi) : EX K (tSl (rSlA K) te tl th) ρ (.tuple ((cutI ns lo hi).map f)) := EX.is (ex_slT h h1 h2) (by rw [← cutI_map]; rfl)
theorem IW.is (h : IW K wi ρ fun us => us = ds) (e : ds = es) : IW K wi ρ fun us => us = es := e ▸ h
theorem rngD_nat (a n : Nat) : rngD (a : Int) n = (List.range' a n).map fun k : Nat => .int (k : Int) := by
  unfold rngD
  rw [List.range'_eq_map_range, List.map_map]
  refine List.map_congr_left fun k _ => ?_
  show PyData.int ((a : Int) + (k : Int)) = .int ((a + k : Nat) : Int)
  rw [Int.natCast_add]
theorem rngD_0 (n : Nat) : rngD 0 n = (List.range n).map fun k : Nat => .int (k : Int) := by
  unfold rngD
  refine List.map_congr_left fun k _ => ?_
  rw [Int.zero_add]
/-- a walk over a known row -/
theorem sd_forX {α : Type} {t : TS} {g : TG} {E : DE} (xs : List α) (inj : α → PyData) (Iv : Nat → Rho → Prop) (hw : IW K wi ρ fun us => us = xs.map inj) (h0 : Iv 0 ρ)
    (hs : ∀ i x ρ', xs[i]? = some x → i < xs.length → Iv i ρ' → ∃ ρ'' js, GD K g (inj x) ρ' ρ'' js ∧ SD K t ρ'' ⟨Iv (i + 1), E.rt, E.nx, Iv (i + 1)⟩) (hd : ∀ ρ', Iv xs.length ρ' → E.nx ρ') : SD K (tFor wi g t) ρ E :=
  sd_for hw fun ds e => by
    subst e
    refine ⟨Iv, h0, fun i d ρ' e iv => ?_, fun ρ' iv => hd ρ' (by rw [List.length_map] at iv; exact iv)⟩
    rw [List.getElem?_map] at e
    obtain ⟨x, hx, rfl⟩ := Option.map_eq_some_iff.mp e
    exact hs i x ρ' hx (List.getElem?_eq_some_iff.mp hx).1 iv
theorem sd_forN {t : TS} {g : TG} {E : DE} (a n : Nat) (Iv : Nat → Rho → Prop) (hw : IW K wi ρ fun us => us = (List.range' a n).map fun k : Nat => .int (k : Int)) (h0 : Iv 0 ρ)
    (hs : ∀ i ρ', i < n → Iv i ρ' → ∃ ρ'' js, GD K g (.int ((a + i : Nat) : Int)) ρ' ρ'' js ∧ SD K t ρ'' ⟨Iv (i + 1), E.rt, E.nx, Iv (i + 1)⟩) (hd : ∀ ρ', Iv n ρ' → E.nx ρ') : SD K (tFor wi g t) ρ E :=
  sd_forX (List.range' a n) _ Iv hw h0 (fun i x ρ' e hl iv => by
    rw [List.length_range'] at hl
    rw [List.getElem?_range' hl] at e
    cases Option.some.inj e
    have h := hs i ρ' hl iv
    rw [Nat.one_mul]
    exact h) fun ρ' iv => hd ρ' (by rw [List.length_range'] at iv; exact iv)
theorem iw_rn1 {n : Nat} (h : EX K te ρ (.int (n : Int))) (hn : n ≤ 100000) : IW K (iRng1 (tCons te tNil)) ρ fun us => us = (List.range' 0 n).map fun k : Nat => .int (k : Int) := IW.is (iw_rng1 (eax_cons h eax_nil) (by omega)) (by
  rw [Int.toNat_natCast, ← rngD_nat]
  rfl)
theorem iw_rn2 {a b : Nat} (h : EX K te ρ (.int (a : Int))) (h2 : EX K ta ρ (.int (b : Int))) (hn : a ≤ 100000 ∧ b ≤ 100000) : IW K (iRng2 (tCons te (tCons ta tNil))) ρ fun us => us = (List.range' a (b - a)).map fun k : Nat => .int (k : Int) := IW.is (iw_rng2 (eax_cons h (eax_cons h2 eax_nil)) (by omega)) (by
  rw [show ((b : Int) - (a : Int)).toNat = b - a by omega, rngD_nat])
theorem ex_nat {n m : Nat} (h : EX K te ρ (.int (n : Int))) (e : n = m) : EX K te ρ (.int (m : Int)) := e ▸ h
end
theorem pg_tupK {X : Cx} {pos : Pos} {es : List Expr} {k : Nat} {t : TGs} {n : Nat} {K : PySem.W.Frag} (hK : X.K = K) (hc : X.calm = true) (h : PGs X es t)
    (hn : (assignEach es X.env).length = n := by rfl) (hst : (assignEach es X.env).findIdx? (·.1) = none := by rfl) : PG X (.Tuple es k pos) (gTup K n t) := by
  subst hK
  exact pg_tup hc h hn hst
section
variable {X : Cx} {K : PySem.W.Frag} (hK : X.K = K)
include hK
theorem ix_tupK : IxR X (rIxT K) := by subst hK; exact ix_tup
theorem ix_listK : IxR X (rIxL K) := by subst hK; exact ix_list
theorem call_len_seqK : CallR X (.builtin "len") (fun xs H Q => ∃ p ys, xs = [.ref p] ∧ (SqL K H p ys ∨ SqT K H p ys) ∧ Q (.int ys.length) H) := by subst hK; exact call_len_seq
theorem sl_tupAK : SlR X (rSlA K) := by subst hK; exact sl_tupA
theorem sl_listK : SlR X (rSlL K) := by subst hK; exact sl_list
theorem call_tuple_ofK : CallR X (.type "tuple") (fun xs H Q => ∃ p ys, xs = [.ref p] ∧ ((SqL K H p ys ∧ ∀ l, H l = none → Q (.ref l) (upd H l (.tup ys))) ∨ (SqT K H p ys ∧ Q (.ref p) H))) := by subst hK; exact call_tuple_of
theorem call_list_ofK : CallR X (.type "list") (fun xs H Q => ∃ p ys, xs = [.ref p] ∧ (SqL K H p ys ∨ SqT K H p ys) ∧ ∀ l, H l = none → Q (.ref l) (upd H l (.lst ys))) := by subst hK; exact call_list_of
theorem op_catAK : OpR X (binaryOp .Add) (rCatA K) := by subst hK; exact op_catA
theorem cr_minTK (hc : X.calm = true) (hu : X.A.units + 64 < cLine) : CallR X (.builtin "min") (rMinT K) := by subst hK; exact cr_minT hc hu
theorem cr_maxTK (hc : X.calm = true) (hu : X.A.units + 64 < cLine) : CallR X (.builtin "max") (rMaxT K) := by subst hK; exact cr_maxT hc hu
end
end Kd

/-! Kd, part M: a dict of the text's top with tuples as keys is read; calls with keywords alone, with nothing, of a local name. -/
namespace Kd
open PySem PySem.Spec PyProof.Rows L2 Evl

/-- the dict at a of the text's top: its keys, their addresses, the addresses of what it holds -/
def DK (K : PySem.W.Frag) (a : Addr) (xs : List (List Key × Addr × Addr)) : Prop := ∀ (P : Program) (w : World) (h : Heap), K.In h → h.DictOfH (tupleKind (mixKind P w)) a (xs.map fun x => (x.1, x.2.1, Value.ref x.2.2))
def tKGet (K : PySem.W.Frag) (xs : List (List Key × Addr × Addr)) (ty : TE) : TE := fun σ H Q => ty σ H fun y H1 => ∃ b k p, y = .ref b ∧ SqT K H1 b (k.map kV) ∧ ((xs.find? fun x => decide (x.1 = k)).map (·.2)) = some p ∧ Q (.ref p.2) H1
section
variable {X : Cx} {o i : Expr} {pos : Pos} {ty : TE} {a : Addr} {xs : List (List Key × Addr × Addr)}
theorem pe_kget (hu : X.A.units + 1 < cLine) (ho : PE X o (tC (.ref a))) (hi : PE X i ty) (hs : NoSl i) (hD : DK X.K a xs) : PE X (.Subscript o i pos) (tKGet X.K xs ty) := by
  refine ⟨fun pins s σ H Q I h => ?_⟩
  refine subD_of PySem.F.slot_dict_getitem.lookup hs (thn (ho.run pins s σ H (fun x H1 => x = .ref a ∧ H1 = H) I ⟨rfl, rfl⟩) fun u s1 ⟨x, H1, I1, rx, e1, e2⟩ => ?_)
  subst e1 e2
  obtain rfl : u = Value.ref a := rx
  refine thn (hi.run pins s1 σ H1 _ I1 h) fun iv s2 ⟨y, H2, I2, ry, b, k, p, ey, hq, hp, q2⟩ => ?_
  subst ey
  obtain rfl : iv = Value.ref b := ry
  have dd := hD X.prog X.w s2.heap I2.kIn
  obtain ⟨its, rv, ⟨ob, h1, h2, n, h3⟩, _⟩ := I2.tuple hq
  have hk : (tupleKind (mixKind X.prog X.w)).is s2.heap k b := ⟨ob, its.toArray, n, h1, h2, h3, by simpa using items_are rv⟩
  refine ⟨dd.typeIs, wpAny_getItem_heap (p := (p.1, Value.ref p.2)) (tupleKind_room_in1 hu) hk dd ?_ ⟨.ref p.2, H2, I2.tok _, rfl, q2⟩⟩
  unfold atKey
  rw [List.find?_map]
  have e : ((fun x : List Key × Addr × Value => decide (x.1 = k)) ∘ fun x : List Key × Addr × Addr => (x.1, x.2.1, Value.ref x.2.2)) = fun x => decide (x.1 = k) := rfl
  rw [e]
  cases hf : xs.find? fun x => decide (x.1 = k) with
  | none =>
    rw [hf] at hp
    exact nomatch hp
  | some x =>
    rw [hf] at hp
    cases Option.some.inj hp
    rfl
end
section
variable {K : PySem.W.Frag} {ρ : Rho} {te ty : TE} {d e z : PyData} {xs : List (List Key × Addr × Addr)} {p : Addr × Addr}
theorem ex_kget {wy : List Int} (h : EX K ty ρ (.tuple (wy.map PyData.int))) (hx : ((xs.find? fun x => decide (x.1 = wy.map Sum.inl)).map (·.2)) = some p) (hp : ∀ G, Rp K G (.ref p.2) d) : EX K (tKGet K xs ty) ρ d := fun m G0 H0 G σ H S Q q =>
  h m G0 H0 G σ H S _ fun v G1 H1 x1 r1 => by
    cases r1 with
    | @tup b vs _ hs ha =>
      refine ⟨b, wy.map Sum.inl, p, rfl, ?_, hx, q _ G1 H1 x1 (hp G1)⟩
      have e : vs = (wy.map Sum.inl).map kV := by
        rw [ha.ints, List.map_map]
        rfl
      rw [← e]
      exact ex_t x1.gh hs
end
section
variable {P : Program} {w : World} {K : PySem.W.Frag} {mg : Str → Option Value} {base : Heap}
/-- a def by its data: what is to be shown of the def itself -/
theorem def_fn {x : Str} {st : Stmt} {f : Addr} {fd : FuncData} {N ps : List Str} {k : Nat} {R : List Sl → (PyData → Prop) → Prop} (F : C8.Def K mg x st f fd) (S : FnScope N ps (C8.fnScope st)) (hN : ps.length ≤ N.length) (len : ∀ ss P, R ss P → ss.length = ps.length)
    (body : ∀ (cdv : Value) (A : Around) (outer : List Env) (s : Shared) (H : Hp) (E : XK), Room k (A.deeper (envOfC x (C8.fnScope st) s.heap.objs.size f cdv)) →
      ∃ t, PSs (cxOf C8.CX0 P w K mg base N x (C8.fnScope st) f cdv A outer s H E).nox (C8.fnBody st) t ∧ ∀ ss Pd, R ss Pd → SD K t (ss ++ List.replicate (N.length - ss.length) .no) ⟨fun _ => Pd .none, Pd, fun _ => False, fun _ => False⟩) :
    FnOk P w K mg base C8.CX0 (k + 1) f fd ps (spR K R) := by
  refine C8.fn0 F.fn S (fun vs H Q E h => ?_) fun cdv A outer s H vs Q E hr h => ?_
  · obtain ⟨m, G, ss, Pd, _, _, ha, hR, _⟩ := h
    rw [ha.len, len ss Pd hR]
  · obtain ⟨m, G, ss, Pd, eG, hp, ha, hR, q⟩ := h
    obtain ⟨t, pt, sd⟩ := body cdv A outer s H E hr
    exact ⟨t, pt, sd_run (sd ss Pd hR) eG hp ha (by rw [len ss Pd hR]; exact hN) q⟩
end
/-! ### calls -/
/-- a def that is called by its name with the keywords ks alone -/
structure CalK (P : Program) (w : World) (K : PySem.W.Frag) (mg : Str → Option Value) (base : Heap) (k : Nat) (x : Str) (sp : Sp) (ks : List Str) (gV : List V → List V) : Prop where
  ex : ∃ (f : Addr) (fd : FuncData) (ps : List Str) (g : List Value → List Value → List Value), FnOk P w K mg base C8.CX0 k f fd ps sp ∧ mg x = some (.ref f) ∧ PySem.W.keepIn K (.ref f) = true ∧ KBn K fd ps 0 ks g (fun _ zs => gV zs)
def tCallKw (n : Nat) (sp : Sp) (gV : List V → List V) (tk : TA) : TE := fun σ H Q => tk σ H fun zs H2 => zs.length = n ∧ sp (gV zs) H2 Q C8.E0
section
variable {X : Cx} {k j : Nat} {x : Str} {sp : Sp} {ks : List Str} {gV : List V → List V} {p pos : Pos} {kws : List Keyword} {tk : TA} {dvs : List V}
theorem pe_kw (c : CalK X.prog X.w X.K X.mg X.base k x sp ks gV) (hr : Room j X.A) (hk : k ≤ j) (hg : Gl X x) (hkw : PK X kws tk) (hall : (backToKw pos (keywordEach kws X.env)).all (·.1.isSome) = true := by rfl) (hks : (backToKw pos (keywordEach kws X.env)).filterMap (·.1) = ks := by rfl)
    (hdb : (x == ("__debug__" : Str)) = false := by decide) (hpl : ((backTo pos (starEach [] X.env)).any (·.1) || (backToKw pos (keywordEach kws X.env)).any (·.1.isNone)) = false := by rfl) :
    PE X (.Call (.Name x p) [] kws pos) (tCallKw ks.length sp gV tk) := by
  obtain ⟨f, fd, ps, g, F, hm, kp, hb⟩ := c.ex
  refine ⟨fun pins s σ H Q I h => ?_⟩
  refine wpAny_Call_Name_kw (ld_glob I hg hm ?_ hdb)
  refine PySem.W.callWith_KW0 (h₀ := X.base) I.ok.mod.kin kp hall ?_ hpl
  refine thn (hkw.run pos pins s σ H _ I h) fun ws s2 ⟨zs, H2, I2, rz, l2, q2⟩ => ⟨I2.kIn, ?_⟩
  rw [hks]
  exact run_fnN (us := []) (vs := []) F (hr.mono hk) hb C8.pass0 I2 .nil rz rfl l2 q2
theorem pe_c0 (c : C8.Cal X.prog X.w X.K X.mg X.base k x sp dvs) (hr : Room j X.A) (hk : k ≤ j) (hg : Gl X x) (hdb : (x == ("__debug__" : Str)) = false := by decide) : PE X (.Call (.Name x p) [] [] pos) (tCall sp dvs C8.E0 tNil) := by
  obtain ⟨f, fd, ps, ds, F, hm, kp, b, d⟩ := c.ex
  exact pe_call0 F (hr.mono hk) hg hm kp b d C8.pass0 hdb
end
section
variable {K : PySem.W.Frag} {ρ : Rho} {te ty : TE} {tA : TA} {d e z : PyData} {P : PyData → Prop} {ss : List Sl}
/-- the call with keywords: the slots in the parameters' order -/
theorem ex_kw2 {R : List Sl → (PyData → Prop) → Prop} {d1 d2 : PyData} {t1 t2 : TE} (h1 : EX K t1 ρ d1) (h2 : EX K t2 ρ d2) (hR : R [.dat d2, .dat d1] fun e => e = d) : EX K (tCallKw 2 (spR K R) (fun zs => zs.reverse) (tCons t1 (tCons t2 tNil))) ρ d := fun m G0 H0 G σ H S Q q =>
  h1 m G0 H0 G σ H S _ fun v1 G1 H1 x1 r1 => h2 m G0 H0 G1 σ H1 (S.step x1) _ fun v2 G2 H2 x2 r2 => by
    refine ⟨rfl, m, G2, [.dat d2, .dat d1], fun e => e = d, x2.gh, ((S.step x1).step x2).potOk, .cons (s := .dat d2) r2 (.cons (s := .dat d1) (r1.mono x2.gg) .nil), hR, fun v e G3 H3 x3 r3 p3 => ?_⟩
    subst p3
    exact q v G3 H3 ((x1.trans x2).trans x3) r3
theorem ex_call0 {R : List Sl → (PyData → Prop) → Prop} {E : XK} (hR : R [] fun e => e = d) : EX K (tCall (spR K R) [] E tNil) ρ d := ex_call ea_nil hR
end
end Kd

/-! Kd, part N: a dict display with one tuple as key; range with three arguments; a list's place taken out. -/
namespace Kd
open PySem PySem.Spec PyProof.Rows L2 Evl

/-- {k: v}, k a new tuple; the new dict stands empty while the pair is made -/
def tDispT1 (tk tv : TE) : TE := fun σ H Q => ∀ p, H p = none → tk σ (upd H p (.dT [])) fun y H1 => tv σ H1 fun v H2 => ∃ b k, y = .ref b ∧ H2 b = some (.tup (k.map kV)) ∧ H2 p = some (.dT []) ∧ Q (.ref p) (upd H2 p (.dT [(k, v)]))
section
variable {X : Cx} {k v : Expr} {pos : Pos} {tk tv : TE}
theorem pe_dispT1 (hu : X.A.units + 1 < cLine) (hk : PE X k tk) (hv : PE X v tv) : PE X (.Dict [some k] [v] pos) (tDispT1 tk tv) := by
  refine ⟨fun pins s σ H Q I q => ?_⟩
  have hn := I.hok.fresh (Nat.le_refl s.heap.objs.size)
  have I1 := I.laid (a := s.heap.objs.size) (o := .dT []) (h' := s.heap.push { cls := .type "dict", data := .dict #[] }) (t' := s.toks) (fun _ _ q => Heap.get?_push_of_some _ q) (Nat.le_refl _) (dt_empty s.heap I.big)
  rw [arm_eval_Dict, show (evalEachOpt [some k] X.env).zip ((evalEach [v] X.env).map fun v => do let x ← v; standAt pos; pure x) = (pairTrees [some k] [v] X.env pos).map (fun p => (some p.1, p.2)) from rfl, dictDisplay_pairs _ (by intro z; exact nomatch z) (by show 1 < 17; decide)]
  refine wpAny_bind (wpAny_standAt (wpAny_bind (wpAny_subDictH (knd := tupleKind (mixKind X.prog X.w)) (Q := fun d s' => wpAny (model X.prog X.w) X.A (pure (Value.ref d)) (EP X pins σ Q) X.xe s') (by show X.A.units < cLine; omega) (by show 1 ≤ 15; decide) ?_)))
  have hp : tPairs [(tk, tv)] σ (upd H s.heap.objs.size (.dT [])) fun ps H2 => ∃ b k v, ps = [(.ref b, v)] ∧ H2 b = some (.tup (k.map kV)) ∧ H2 s.heap.objs.size = some (.dT []) ∧ Q (.ref s.heap.objs.size) (upd H2 s.heap.objs.size (.dT [(k, v)])) := by
    show tk σ _ fun x H1 => tv σ H1 fun y H2 => _
    have := q _ hn
    have go : ∀ (y : V) (H1 : Hp) (v : V) (H2 : Hp), (∃ b k, y = .ref b ∧ H2 b = some (.tup (k.map kV)) ∧ H2 s.heap.objs.size = some (.dT []) ∧ Q (.ref s.heap.objs.size) (upd H2 s.heap.objs.size (.dT [(k, v)]))) = (∃ b k v', [(y, v)] = [(V.ref b, v')] ∧ H2 b = some (.tup (k.map kV)) ∧ H2 s.heap.objs.size = some (.dT []) ∧ Q (.ref s.heap.objs.size) (upd H2 s.heap.objs.size (.dT [(k, v')]))) := fun y H1 v H2 => by
      refine propext ⟨fun ⟨b, k, e, h1, h2, h3⟩ => ⟨b, k, v, by rw [e], h1, h2, h3⟩, fun ⟨b, k, v', e, h1, h2, h3⟩ => ?_⟩
      injection e with e _
      injection e with e1 e2
      subst e1 e2
      exact ⟨b, k, rfl, h1, h2, h3⟩
    have e2 : (fun y H1 => tv σ H1 fun v H2 => ∃ b k, y = .ref b ∧ H2 b = some (.tup (k.map kV)) ∧ H2 s.heap.objs.size = some (.dT []) ∧ Q (.ref s.heap.objs.size) (upd H2 s.heap.objs.size (.dT [(k, v)]))) = (fun y H1 => tv σ H1 fun v H2 => ∃ b k v', [(y, v)] = [(V.ref b, v')] ∧ H2 b = some (.tup (k.map kV)) ∧ H2 s.heap.objs.size = some (.dT []) ∧ Q (.ref s.heap.objs.size) (upd H2 s.heap.objs.size (.dT [(k, v')]))) := by
      funext y H1
      congr 1
      funext v H2
      exact go y H1 v H2
    rw [e2] at this
    exact this
  refine thn ((pps_cons hk hv pps_nil).run pins _ σ _ _ I1 hp) fun ws s2 ⟨ps, H2, I2, rel, b, k, y, e, eb, ed, q2⟩ => ?_
  subst e
  cases rel with
  | @cons a u as bs r rr =>
  cases rr
  obtain ⟨u1, u2⟩ := u
  obtain ⟨r1, r2⟩ := r
  obtain rfl : u1 = Value.ref b := r1
  obtain ⟨z, hd, xs, relx, dd⟩ := dt_of I2.hok ed
  cases relx
  refine ⟨[(k, b, u2)], ⟨rfl, rfl, key_of I2.hok eb, trivial⟩, dd, fun h' tok dd' hs => wpAny_pure ⟨.ref s.heap.objs.size, _, ?_, rfl, q2⟩⟩
  obtain ⟨ob, es, ep, hq, h2, h3, h4, _, h5⟩ := dd'
  refine d_write I2 (by rw [ed]; exact True.intro) hs ⟨ob, hq⟩ ⟨by show 1 ≤ sizeLine; decide, hd, _, .cons ⟨rfl, ?_, r2⟩ .nil, ob, es, ep, hq, h2, h3, h4, h5⟩
  rw [upd_ne (ne_of eb ed (fun z => nomatch z))]
  exact eb
end
section
variable {K : PySem.W.Frag} {ρ : Rho} {te tk tv ta : TE} {tA : TA} {d e z : PyData} {ds : List PyData} {k : List Key} {i : Nat} {E : DE}
theorem es_dispT1 (hk : EX K tk ρ (trk (k.map kD))) (hv : EX K tv ρ d) : ES K (tDispT1 tk tv) ρ (.ownD [k] [d]) := fun m G0 H0 G σ H S Q q p hp => by
  have x0 := Xt.new0 (m := m) (o := .dT []) S.xt.gh hp
  have S0 := S.step x0
  refine hk m G0 H0 G σ _ S0 _ fun y G1 H1 x1 r1 => hv m G0 H0 G1 σ H1 (S0.step x1) _ fun v G2 H2 x2 r2 => ?_
  obtain ⟨b, rfl, hb⟩ := own_key (m := m) x2.gh (r1.mono x2.gg)
  have x := x1.trans x2
  have nm : m ≠ some p := fun z => S.potH p z hp
  have g2 : G2 p = none := x.fr p (fresh_back S.xt.gh hp) (by rw [upd_same]; rfl)
  have h2 : H2 p = some (.dT []) := x.hh p _ nm upd_same
  exact ⟨b, k, rfl, hb, h2, q _ G2 _ ((x0.trans x).mut hp g2 S.potH) ⟨p, [v], rfl, g2, hp, rfl, upd_same, .one r2⟩⟩
/-- down from n - 1 to 0 -/
theorem iw_down {n : Nat} (h : EAX K tA ρ [.int ((n : Int) - 1), .int (-1), .int (-1)]) (hn : n ≤ 100000) : IW K (iRng3 tA) ρ fun us => us = (List.range n).map fun i : Nat => .int ((n - 1 - i : Nat) : Int) := fun m G0 H0 G σ H S R q => h m G0 H0 G σ H S _ fun vs G1 H1 x1 r1 => by
  cases r1 with
  | cons r t =>
    cases t with
    | cons r2 t =>
      cases t with
      | cons r3 t =>
        cases t
        cases r
        cases r2
        cases r3
        have hc : RgC ((n : Int) - 1) (-1) (-1) n := by
          have := RgC.neg (i := (n : Int) - 1) (j := -1) (by omega) (by omega) (by decide) (by decide)
          rw [show ((n : Int) - 1 - -1).toNat = n by omega] at this
          exact this
        refine ⟨_, _, _, n, rfl, hc, q _ _ G1 H1 x1 (fun m' G' H' e1 e2 => ⟨fun i d hd => ?_, ?_⟩) rfl⟩
        · rw [List.getElem?_map] at hd
          obtain ⟨j, hj, rfl⟩ := Option.map_eq_some_iff.mp hd
          obtain ⟨hl, ej⟩ := List.getElem?_eq_some_iff.mp hj
          rw [List.getElem_range] at ej
          subst ej
          rw [List.length_range] at hl
          refine ⟨hl, fun x H'' y => ?_⟩
          obtain ⟨e, y⟩ := y
          subst e y
          refine ⟨G', Xt.refl e2, ?_⟩
          rw [show (n : Int) - 1 + (i : Int) * -1 = ((n - 1 - i : Nat) : Int) by omega]
          exact .int _
        · rw [List.length_map, List.length_range]
          exact Nat.le_refl _
theorem eraseIdx_map {α β : Type} (f : α → β) : ∀ (l : List α) (k : Nat), (l.eraseIdx k).map f = (l.map f).eraseIdx k
  | [], _ => rfl
  | _ :: _, 0 => rfl
  | a :: l, k + 1 => by rw [List.eraseIdx_cons_succ, List.map_cons, List.map_cons, List.eraseIdx_cons_succ, eraseIdx_map f l k]
/-- our list gives away a place: some number of the places -/
theorem sd_popApp {j : Nat} {ns fs : List Int} (hi : ρ[i]? = some (.own (ns.map PyData.int))) (hj : ρ[j]? = some (.own (fs.map PyData.int))) (hij : i ≠ j) (hz : fs.length < 100000) (hn : ns.length < 100000) (h : ED K te ρ fun d => ∃ k : Nat, d = .int (k : Int) ∧ k < ns.length)
    (q : ∀ k, k < ns.length → E.nx ((ρ.set i (.own ((ns.eraseIdx k).map PyData.int))).set j (.own ((fs ++ [ns.getD k 0]).map PyData.int)))) :
    SD K (tDrop (tBM K "list" rAppend (tVar j) (tCons (tBM K "list" rPopAt (tVar i) (tCons te tNil)) tNil))) ρ E := fun m G0 H0 G σ H D S O => by
  obtain ⟨p, xs, f1, f2, f3, f4, f5⟩ := S.sl i _ hi
  obtain ⟨p', ys, g1, g2, g3, g4, g5⟩ := S.sl j _ hj
  have hv := join_some f1
  have hv' := join_some g1
  refine ⟨.ref p', hv', .inl ⟨rfl, ys, .inl (.inl g4)⟩, ⟨.ref p, hv, .inl ⟨rfl, xs, .inl (.inl f4)⟩, h m G0 H0 G σ H S _ fun v d G2 H2 x r pd => ?_⟩⟩
  obtain ⟨k, rfl, hk⟩ := pd
  cases r
  have nm : m ≠ some p := fun z => (S.pt p z).2.1 f3
  have nm' : m ≠ some p' := fun z => (S.pt p' z).2.1 g3
  have f4' := x.hh p _ nm f4
  have g4' := x.hh p' _ nm' g4
  have fG := x.fr p f2 (by rw [f4]; rfl)
  have gG := x.fr p' g2 (by rw [g4]; rfl)
  have hpp : p' ≠ p := fun z => hij (S.ap i j _ _ p hi hj rfl rfl hv (by rw [← z]; exact hv'))
  have ex : xs = ns.map V.int := f5.ints
  have hl : xs.length = ns.length := by rw [ex, List.length_map]
  have hget : xs[k]? = some (.int (ns.getD k 0)) := by rw [ex, List.getElem?_map, getD_some 0 hk]; rfl
  refine ⟨p, xs, (k : Int), k, .int (ns.getD k 0), rfl, rfl, f4', by omega, by omega, ?_, hget, ?_⟩
  · rw [hl]
    unfold seqIndex?
    rw [if_neg (by omega : ¬ (k : Int) < 0)]
    have c : ((0 : Int) ≤ (k : Int) ∧ (k : Int) < (ns.length : Int)) := ⟨by omega, by omega⟩
    simp only [Int.toNat_natCast]
    rw [if_pos (by simpa using hk)]
  · have S2 := (S.step x).mut (o := .lst (xs.eraseIdx k)) (t := .own ((ns.eraseIdx k).map PyData.int)) hi rfl hv fG f3 (by rw [f4']; exact fun z => nomatch z)
      (show SlOk K m H0 _ _ _ (.own _) from ⟨p, _, rfl, fG, f3, upd_same, by rw [eraseIdx_map]; exact (f5.mono x.gg).erase k⟩)
    have hj2 : (ρ.set i (.own ((ns.eraseIdx k).map PyData.int)))[j]? = some (.own (fs.map PyData.int)) := by rw [List.getElem?_set_ne hij]; exact hj
    have g4'' : upd H2 p (.lst (xs.eraseIdx k)) p' = some (.lst ys) := by rw [upd_ne hpp]; exact g4'
    refine ⟨p', ys, .int (ns.getD k 0), rfl, rfl, g4'', sz_lt (by rw [g5.len, List.length_map]; exact hz), O.nx G2 σ _ _ (S2.mut hj2 rfl hv' gG g3 (by rw [g4'']; exact fun z => nomatch z) (show SlOk K m H0 _ _ _ (.own _) from ⟨p', _, rfl, gG, g3, upd_same, ?_⟩)) (q k hk)⟩
    rw [List.map_append]
    exact (g5.mono x.gg).app (.one (.int _))
end
end Kd

/-! Kd, part O: two names set through a tuple; a list of our own lists. -/
namespace Kd
open PySem PySem.Spec PyProof.Rows L2 Evl

section
variable {K : PySem.W.Frag} {ρ : Rho} {te ta tb ti : TE} {d e z : PyData} {ds : List PyData} {i j : Nat} {E : DE} {wi wi2 : TI}
theorem sd_parT {s1 s2 : Sl} (h1 : ES K ta ρ s1) (h2 : ES K tb ρ s2) (k : E.nx ((ρ.set i s1).set j s2)) : SD K (tAsg (tTup (tCons ta (tCons tb tNil))) (gTup K 2 (gCons (gName i) (gCons (gName j) gNil)))) ρ E := fun m G0 H0 G σ H D S O =>
  h1 m G0 H0 G σ H S _ fun v G1 H1 x1 q1 => h2 m G0 H0 G1 σ H1 (S.step x1) _ fun w G2 H2 x2 q2 => ⟨by show 2 ≤ sizeLine; decide, fun t ht => ⟨t, [v, w], rfl, .inl (.inl upd_same), rfl, v, [w], rfl, w, [], rfl, rfl, by
    have x3 := Xt.new0 (m := m) (o := .tup [v, w]) x2.gh ht
    have S2 := (S.step x1).step x2
    have q1' := SlOk.step S.potH (x2.trans x3) q1
    have q2' := SlOk.step (S.step x1).potH x3 q2
    have S3 := S.store (i := i) ((x1.trans x2).trans x3) q1'
    refine O.nx G2 _ _ _ (S3.set (q2'.from' fun a h => (S.step x1).xt.nn a h) fun ow jj t e o q => ?_) k
    obtain ⟨p, e1, e2, _⟩ := q2'.fresh ow
    subst e1
    rcases set_get e with ⟨rfl, rfl⟩ | ⟨ne, e⟩
    · obtain ⟨p', f1, f2, f3⟩ := q1.fresh o
      subst f1
      have hl : i < σ.length := by
        have := (List.getElem?_eq_some_iff.mp q).1
        simpa using this
      rw [List.getElem?_set_self hl] at q
      cases q
      exact f3 e2
    · rw [List.getElem?_set_ne ne] at q
      exact (S.step x1).ownH e o q e2⟩⟩
/-- a list that no slot owns changes -/
theorem Sta.mutX {m : Option Addr} {G0 H0 G H : Hp} {σ : L2.St} (S : Sta K m G0 H0 G σ H ρ) {p : Addr} {o : HO} (gp : G p = none) (hp0 : H0 p = none) (no : ∀ (i : Nat) (s : Sl), ρ[i]? = some s → s.owns = false) : Sta K m G0 H0 G σ (upd H p o) ρ := by
  have nm : m ≠ some p := fun z => (S.pt p z).2.1 hp0
  refine ⟨⟨S.xt.gg, fun a u n e => ?_, fun a u e => ?_, S.xt.fr, fun a e => ?_, fun q e h => ?_, fun a e => ?_⟩, fun q e => ?_, S.len, fun j u e => ?_, S.ap⟩
  · have z : a ≠ p := fun z => by rw [z, hp0] at e; cases e
    rw [upd_ne z]
    exact S.xt.hh a u n e
  · have z : a ≠ p := fun z => by rw [z, gp] at e; cases e
    rw [upd_ne z]
    exact S.xt.gh a u e
  · have z : a ≠ p := fun z => e (by rw [z]; exact hp0)
    rw [upd_ne z]
    exact S.xt.nn a e
  · have z : q ≠ p := fun z => nm (by rw [← z]; exact e)
    obtain ⟨i, j, h1, h2, h3, hh⟩ := (S.pt q e).2.2
    exact ⟨i, j, h1, h2, h3, by rw [upd_ne z]; exact hh⟩
  · have z : a ≠ p := fun z => by rw [z, hp0] at e; exact nomatch e
    rw [upd_ne z]
    exact S.xt.nt a e
  · obtain ⟨k1, k2, i, j, h1, h2, h3, hh⟩ := S.pt q e
    have z : q ≠ p := fun z => nm (by rw [← z]; exact e)
    exact ⟨k1, k2, i, j, h1, h2, h3, by rw [upd_ne z]; exact hh⟩
  · have q := S.sl j u e
    have n := no j u e
    cases u with
    | no => trivial
    | dat d => exact q
    | own ds => exact nomatch n
    | ownD ks ds => exact nomatch n
    | pot => exact q
    | val v => exact q
/-- many lists become known -/
theorem freezeAll {m : Option Addr} {G0 H0 H : Hp} : ∀ (l : List (Addr × List V)) (G : Hp), Xt m G0 H0 G H → (l.map (·.1)).Nodup → (∀ q ∈ l, G q.1 = none ∧ H0 q.1 = none ∧ H q.1 = some (.lst q.2)) → ∃ G', Xt m G0 H0 G' H ∧ Ex G G' ∧ (∀ q ∈ l, G' q.1 = some (.lst q.2)) ∧ ∀ a, a ∉ l.map (·.1) → G' a = G a
  | [], G, x, _, _ => ⟨G, x, Ex.refl G, (fun _ h => nomatch h), fun _ _ => rfl⟩
  | q :: l, G, x, hn, h => by
    rw [List.map_cons, List.nodup_cons] at hn
    obtain ⟨h1, h2, h3⟩ := h q List.mem_cons_self
    have x1 := x.obj h2 h1 h3
    obtain ⟨G', y1, y2, y3, y4⟩ := freezeAll l (upd G q.1 (.lst q.2)) x1 hn.2 fun r hr => by
      obtain ⟨k1, k2, k3⟩ := h r (List.mem_cons_of_mem _ hr)
      have ne : r.1 ≠ q.1 := fun z => hn.1 (by rw [← z]; exact List.mem_map.mpr ⟨r, hr, rfl⟩)
      exact ⟨by rw [upd_ne ne]; exact k1, k2, k3⟩
    have eG : Ex G (upd G q.1 (.lst q.2)) := Ex.new h1
    refine ⟨G', y1, eG.trans y2, fun r hr => ?_, fun a ha => ?_⟩
    · rcases List.mem_cons.mp hr with rfl | hr
      · exact y2 _ _ upd_same
      · exact y3 r hr
    · rw [List.map_cons, List.mem_cons, not_or] at ha
      rw [y4 a ha.2, upd_ne ha.1]
/-- what a list of our own lists is -/
structure Nest (m : Option Addr) (G0 H0 G H : Hp) (D : Addr) (l : List (Addr × List Nat)) : Prop where
  hD : H D = some (.lst (l.map fun q => V.ref q.1))
  gD : G D = none
  h0D : H0 D = none
  nd : (l.map (·.1)).Nodup
  nm : D ∉ l.map (·.1)
  at' : ∀ q ∈ l, G q.1 = none ∧ H0 q.1 = none ∧ H q.1 = some (.lst (q.2.map fun n : Nat => V.int (n : Int)))
theorem Nest.step {m : Option Addr} {G0 H0 G H G2 H2 : Hp} {D : Addr} {l : List (Addr × List Nat)} (N : Nest m G0 H0 G H D l) (pm : ∀ q, m = some q → H0 q ≠ none) (x : Xt m G H G2 H2) : Nest m G0 H0 G2 H2 D l :=
  ⟨x.hh _ _ (fun z => pm _ z N.h0D) N.hD, x.fr _ N.gD (by rw [N.hD]; rfl), N.h0D, N.nd, N.nm, fun q hq => by
    obtain ⟨h1, h2, h3⟩ := N.at' q hq
    exact ⟨x.fr _ h1 (by rw [h3]; rfl), h2, x.hh _ _ (fun z => pm _ z h2) h3⟩⟩
/-- [[] for .. in ..] -/
theorem el_nest {g : TG} {vs : List Nat} {α : Type} (xs : List α) (inj : α → PyData) (js : List Nat) (hw : IW K wi ρ fun us => us = xs.map inj) (hj : ∀ j ∈ js, j ∈ vs) (hz : xs.length ≤ 40000)
    (ht : ∀ x ∈ xs, ∃ ρ', GD K g (inj x) (wipeR ρ vs) ρ' js) {m : Option Addr} {G0 H0 G : Hp} {σ : L2.St} {H : Hp} (S : Sta K m G0 H0 G σ H ρ) (Q : VK)
    (q : ∀ D l G2 H2, Xt m G H G2 H2 → Nest m G0 H0 G2 H2 D l → l.map (·.2) = xs.map (fun _ => []) → Q (.ref D) H2) : tLc wi g tYes (tLst tNil) vs σ H Q :=
  hw m G0 H0 G σ H S _ fun J us G1 H1 x1 wk eu => by
    subst eu
    intro D hD
    have S1 := S.step x1
    have h0 : ∀ {a : Addr}, H1 a = none → H0 a = none := fun {a} h => by
      cases e : H0 a with
      | none => rfl
      | some o => exact absurd h (S1.xt.nn a (by rw [e]; exact fun z => nomatch z))
    refine ⟨fun i n H' => n = xs.length - i ∧ i ≤ xs.length ∧ ∃ G' l, Xt m G1 H1 G' H' ∧ Nest m G0 H0 G' H' D l ∧ l.map (·.2) = (xs.take i).map (fun _ => []), ⟨xs.length, rfl, Nat.zero_le _, G1, [], Xt.new0 x1.gh hD, ⟨upd_same, fresh_back x1.gh hD, h0 hD, List.nodup_nil, (fun z => nomatch z), fun _ z => nomatch z⟩, rfl⟩, ?_⟩
    rintro i n H' ⟨rfl, hi, G', l, x', N, el⟩
    obtain ⟨w1, w2⟩ := wk m G' H' x'.gg x'.gh
    by_cases hlt : i < xs.length
    · have hg : (xs.map inj)[i]? = some (inj xs[i]) := by rw [List.getElem?_map, List.getElem?_eq_getElem hlt]; rfl
      obtain ⟨go, yl⟩ := w1 i _ hg
      refine .inr ⟨go, fun H2 => ∃ G2 l, Xt m G1 H1 G2 H2 ∧ Nest m G0 H0 G2 H2 D l ∧ l.map (·.2) = (xs.take (i + 1)).map (fun _ => []), fun H2 ⟨G2, l, a1, a2, a3⟩ => ⟨xs.length - (i + 1), by omega, rfl, hlt, G2, l, a1, a2, a3⟩, fun x H2 y => ?_⟩
      obtain ⟨G2, x2, r2⟩ := yl x H2 y
      obtain ⟨ρ', gd⟩ := ht xs[i] (List.getElem_mem hlt)
      have S2 := ((S1.step x').step x2).wiped vs
      refine gd m G0 H0 G2 _ H2 x S2 r2 _ fun σ3 S3 wq => ⟨by rw [wq vs hj, wipe_wipe fun _ h => h], ?_⟩
      refine et_yes m G0 H0 G2 σ3 H2 S3 _ fun G4 H4 x4 => ?_
      rw [if_pos rfl]
      refine ⟨Nat.zero_le _, fun p hp => ?_⟩
      have pm0 : ∀ q, m = some q → H0 q ≠ none := fun q e => (S.pt q e).2.1
      have x3 := (x2.trans x4).trans (Xt.new0 (m := m) (o := .lst []) x4.gh hp)
      have N3 := N.step pm0 x3
      have hD3 : H4 D ≠ none := by
        rw [(x2.trans x4).hh D _ (fun z => pm0 D z N.h0D) N.hD]
        exact fun z => nomatch z
      have pD : p ≠ D := fun z => hD3 (by rw [← z]; exact hp)
      have pl : p ∉ l.map (·.1) := fun z => by
        obtain ⟨q, hq, e⟩ := List.mem_map.mp z
        obtain ⟨h1, h2, h3⟩ := N.at' q hq
        have := (x2.trans x4).hh q.1 _ (fun z => pm0 _ z h2) h3
        rw [e, hp] at this
        exact nomatch this
      have hp0 : H0 p = none := (S1.xt.trans ((x'.trans x2).trans x4)).freeB hp
      have gp : G4 p = none := fresh_back x4.gh hp
      have g4D : G4 D = none := N3.gD
      have sz : l.length = i := by
        have := congrArg List.length el
        rw [List.length_map, List.length_map, List.length_take] at this
        omega
      refine ⟨l.map (fun q => V.ref q.1), N3.hD, sz_lt (by rw [List.length_map]; omega), G4, l ++ [(p, [])], ?_, ⟨?_, g4D, N.h0D, ?_, ?_, ?_⟩, ?_⟩
      · exact (x'.trans x3).mut hD g4D fun q e => S1.potH q e
      · rw [upd_same, List.map_append]
        rfl
      · rw [List.map_append]
        refine List.nodup_append.mpr ⟨N.nd, List.nodup_cons.mpr ⟨List.not_mem_nil, List.nodup_nil⟩, fun a ha b hb e => ?_⟩
        rw [List.map_cons, List.map_nil, List.mem_singleton] at hb
        rw [e, hb] at ha
        exact pl ha
      · rw [List.map_append, List.mem_append]
        rintro (z | z)
        · exact N.nm z
        · rw [List.map_cons, List.map_nil, List.mem_singleton] at z
          exact pD z.symm
      · intro q hq
        rcases List.mem_append.mp hq with hq | hq
        · obtain ⟨h1, h2, h3⟩ := N3.at' q hq
          have ne : q.1 ≠ D := fun z => N.nm (by rw [← z]; exact List.mem_map.mpr ⟨q, hq, rfl⟩)
          exact ⟨h1, h2, by rw [upd_ne ne]; exact h3⟩
        · rw [List.mem_singleton.mp hq]
          exact ⟨gp, hp0, by rw [upd_ne pD, upd_same]; rfl⟩
      · rw [List.map_append, el, List.take_add_one, List.getElem?_eq_getElem hlt, List.map_append]
        rfl
    · have ei : i = xs.length := by omega
      subst ei
      rw [List.take_length] at el
      rw [List.length_map] at w2
      exact .inl ⟨w2, q D l G' H' (x1.trans x') N el⟩
/-- the row's s-th list gets one more -/
theorem Nest.put {m : Option Addr} {G0 H0 G H : Hp} {D p : Addr} {xs : List Nat} {l : List (Addr × List Nat)} {s n : Nat} (N : Nest m G0 H0 G H D l) (hs : l[s]? = some (p, xs)) : Nest m G0 H0 G (upd H p (.lst ((xs ++ [n]).map fun n : Nat => V.int (n : Int)))) D (l.set s (p, xs ++ [n])) := by
  have hm : (p, xs) ∈ l := List.mem_of_getElem? hs
  have pD : p ≠ D := fun z => N.nm (by rw [← z]; exact List.mem_map.mpr ⟨_, hm, rfl⟩)
  have e1 : (l.set s (p, xs ++ [n])).map (·.1) = l.map (·.1) := by
    rw [List.map_set]
    obtain ⟨hl, e⟩ := List.getElem?_eq_some_iff.mp hs
    have : (l.map (·.1))[s]'(by rw [List.length_map]; exact hl) = p := by rw [List.getElem_map, e]
    rw [← this]
    exact List.set_getElem_self _
  refine ⟨?_, N.gD, N.h0D, by rw [e1]; exact N.nd, by rw [e1]; exact N.nm, fun q hq => ?_⟩
  · rw [upd_ne (Ne.symm pD), N.hD]
    have e2 : (l.set s (p, xs ++ [n])).map (fun q => V.ref q.1) = ((l.set s (p, xs ++ [n])).map (·.1)).map V.ref := by rw [List.map_map]; rfl
    rw [e2, e1, List.map_map]
    rfl
  · obtain ⟨k, hk⟩ := List.mem_iff_getElem?.mp hq
    rcases set_get hk with ⟨rfl, rfl⟩ | ⟨ne, hk⟩
    · obtain ⟨h1, h2, _⟩ := N.at' _ hm
      exact ⟨h1, h2, upd_same⟩
    · obtain ⟨h1, h2, h3⟩ := N.at' q (List.mem_of_getElem? hk)
      have nq : q.1 ≠ p := fun z => by
        have a1 : (l.map (·.1))[k]? = some p := by rw [List.getElem?_map, hk, ← z]; rfl
        have a2 : (l.map (·.1))[s]? = some p := by rw [List.getElem?_map, hs]; rfl
        exact ne ((List.getElem?_inj (List.getElem?_eq_some_iff.mp a1).1 N.nd).mp (a1.trans a2.symm)).symm
      exact ⟨h1, h2, by rw [upd_ne nq]; exact h3⟩
/-- found = [[] for ..]; for lot in ..: found[..].append(lot); return found -/
theorem sd_lots {g : TG} {vs js : List Nat} {α : Type} (xs : List α) (inj : α → PyData) (ys : List Nat) (f : Nat → Nat) (many : PyData)
    (hw : IW K wi [.dat many, .no, .no, .no] fun us => us = xs.map inj) (hj : ∀ j ∈ js, j ∈ vs) (hz : xs.length ≤ 40000) (ht : ∀ x ∈ xs, ∃ ρ', GD K g (inj x) (wipeR [.dat many, .no, .no, .no] vs) ρ' js)
    (hi : ∀ s1, IW K wi2 [.dat many, s1, .no, .no] fun us => us = ys.map fun n : Nat => .int (n : Int)) (hti : ∀ n ∈ ys, ∀ s1 s3, EX K ti [.dat many, s1, .dat (.int (n : Int)), s3] (.int (f n : Int)))
    (hf : ∀ n ∈ ys, f n < xs.length) (hzz : ys.length < 100000)
    (k : E.rt (.list ((List.range xs.length).map fun s => .list ((ys.filter fun n => f n == s).map fun n : Nat => .int (n : Int))))) :
    SD K (tSeq (tAsg (tLc wi g tYes (tLst tNil) vs) (gName 1)) (tSeq (tFor wi2 (gName 2) (tDrop (tBM K "list" rAppend (tOp (rIxL K) (tVar 1) ti) (tCons (tVar 2) tNil)))) (tRet (tVar 1)))) [.dat many, .no, .no, .no] E := fun m G0 H0 G σ H Dn S O => by
  suffices go : tLc wi g tYes (tLst tNil) vs σ H (fun x H1 => (tSeq (tFor wi2 (gName 2) (tDrop (tBM K "list" rAppend (tOp (rIxL K) (tVar 1) ti) (tCons (tVar 2) tNil)))) (tRet (tVar 1))) Dn (σ.set 1 (some x)) H1) from go
  refine el_nest xs inj js hw hj hz ht S _ fun D l G1 H1 x1 N1 el => ?_
  have pm0 : ∀ q, m = some q → H0 q ≠ none := fun q e => (S.pt q e).2.1
  have S1 : Sta K m G0 H0 G1 (σ.set 1 (some (.ref D))) H1 [.dat many, .val (.ref D), .no, .no] := (S.step x1).set (i := 1) (s := .val (.ref D)) rfl fun e => nomatch e
  suffices go : tFor wi2 (gName 2) (tDrop (tBM K "list" rAppend (tOp (rIxL K) (tVar 1) ti) (tCons (tVar 2) tNil))) { Dn with nx := (tRet (tVar 1)) Dn } (σ.set 1 (some (.ref D))) H1 from go
  refine hi _ m G0 H0 G1 _ H1 S1 _ fun J us G2 H2 x2 wk eu => ?_
  subst eu
  have N2 := N1.step pm0 x2
  refine ⟨fun i n σ' H' => n = ys.length - i ∧ i ≤ ys.length ∧ ∃ G' l s2, Sta K m G0 H0 G' σ' H' [.dat many, .val (.ref D), s2, .no] ∧ s2.owns = false ∧ Ex G2 G' ∧ Nest m G0 H0 G' H' D l ∧ l.map (·.2) = (List.range xs.length).map fun s => (ys.take i).filter fun n => f n == s,
    ⟨ys.length, rfl, Nat.zero_le _, G2, l, .no, S1.step x2, rfl, Ex.refl G2, N2, ?_⟩, ?_⟩
  · rw [el]
    apply List.ext_getElem
    · simp
    · intro i h1 h2
      simp
  rintro i n σ' H' ⟨rfl, hi', G', l', s2, S', ow, e', N', el'⟩
  obtain ⟨w1, w2⟩ := wk m G' H' e' S'.xt.gh
  have no : ∀ (s3 : Sl), s3.owns = false → ∀ (i : Nat) (s : Sl), ([Sl.dat many, .val (.ref D), s3, .no] : Rho)[i]? = some s → s.owns = false := fun s3 h3 i s hs => by
    match i with
    | 0 => cases Option.some.inj hs; rfl
    | 1 => cases Option.some.inj hs; rfl
    | 2 => cases Option.some.inj hs; exact h3
    | 3 => cases Option.some.inj hs; rfl
    | i + 4 => exact nomatch hs
  by_cases hlt : i < ys.length
  · have hg : (ys.map fun n : Nat => PyData.int (n : Int))[i]? = some (.int (ys[i] : Int)) := by rw [List.getElem?_map, List.getElem?_eq_getElem hlt]; rfl
    obtain ⟨go, yl⟩ := w1 i _ hg
    refine .inr ⟨go, fun σ2 H2 => ∃ G3 l s2, Sta K m G0 H0 G3 σ2 H2 [.dat many, .val (.ref D), s2, .no] ∧ s2.owns = false ∧ Ex G2 G3 ∧ Nest m G0 H0 G3 H2 D l ∧ l.map (·.2) = (List.range xs.length).map fun s => (ys.take (i + 1)).filter fun n => f n == s,
      fun σ2 H2 ⟨G3, l, s2, a1, a2, a3, a4, a5⟩ => ⟨ys.length - (i + 1), by omega, rfl, hlt, G3, l, s2, a1, a2, a3, a4, a5⟩, fun x H3 y => ?_⟩
    obtain ⟨G3, x3, r3⟩ := yl x H3 y
    have hm : ys[i] ∈ ys := List.getElem_mem hlt
    have S3 := (S'.step x3).setD 2 r3
    have N3 := N'.step pm0 x3
    show (tBM K "list" rAppend (tOp (rIxL K) (tVar 1) ti) (tCons (tVar 2) tNil)) (σ'.set 2 (some x)) H3 _
    have v1 := S3.sl 1 (.val (.ref D)) rfl
    have v2 := S3.sl 2 (.dat (.int (ys[i] : Int))) rfl
    refine ⟨.ref D, join_some v1, hti _ hm _ _ m G0 H0 G3 _ H3 S3 _ fun u G4 H4 x4 r4 => ?_⟩
    cases r4
    have S4 := S3.step x4
    have N4 := N3.step pm0 x4
    have len' : l'.length = xs.length := by
      have := congrArg List.length el'
      rw [List.length_map, List.length_map, List.length_range] at this
      exact this
    have hfl : f ys[i] < l'.length := by rw [len']; exact hf _ hm
    have hget : l'[f ys[i]]? = some (l'[f ys[i]].1, l'[f ys[i]].2) := List.getElem?_eq_getElem hfl
    obtain ⟨k1, k2, k3⟩ := N4.at' _ (List.mem_of_getElem? hget)
    refine ⟨D, _, (f ys[i] : Int), .ref l'[f ys[i]].1, rfl, rfl, .inl (.inl N4.hD), atI_nat (by rw [List.getElem?_map, hget]; rfl), ?_⟩
    refine ⟨.inl ⟨rfl, _, .inl (.inl k3)⟩, ?_⟩
    obtain ⟨v, v3, v4⟩ := v2
    have ev : v = .int (ys[i] : Int) := by cases v4; rfl
    subst ev
    refine ⟨_, join_some v3, ?_⟩
    have c2 : l'[f ys[i]].2 = (ys.take i).filter fun n => f n == f ys[i] := by
      have a1 : (l'.map (·.2))[f ys[i]]? = some l'[f ys[i]].2 := by rw [List.getElem?_map, hget]; rfl
      rw [el', List.getElem?_map, List.getElem?_range (by rw [← len']; exact hfl)] at a1
      exact (Option.some.inj a1).symm
    refine ⟨l'[f ys[i]].1, _, _, rfl, rfl, k3, sz_lt ?_, G4, l'.set (f ys[i]) (l'[f ys[i]].1, l'[f ys[i]].2 ++ [ys[i]]), .dat (.int (ys[i] : Int)), ?_, rfl, e'.trans (x3.gg.trans x4.gg), ?_, ?_⟩
    · rw [List.length_map, c2]
      have := List.length_filter_le (fun n => f n == f ys[i]) (ys.take i)
      rw [List.length_take] at this
      omega
    · exact S4.mutX k1 k2 (no _ rfl)
    · have := N4.put (n := ys[i]) hget
      rw [List.map_append] at this
      exact this
    · rw [List.map_set, el']
      apply List.ext_getElem
      · simp
      · intro j h1 h2
        have tk : ys.take (i + 1) = ys.take i ++ [ys[i]] := (List.take_append_getElem hlt).symm
        rw [List.getElem_map, List.getElem_range, tk, List.filter_append]
        by_cases e : f ys[i] = j
        · subst e
          rw [List.getElem_set_self, List.filter_cons, if_pos (by simp), c2]
          rfl
        · rw [List.getElem_set_ne e, List.getElem_map, List.getElem_range, List.filter_cons, if_neg (by simpa using e), List.filter_nil, List.append_nil]
  · have ei : i = ys.length := by omega
    subst ei
    rw [List.take_length] at el'
    rw [List.length_map] at w2
    refine .inl ⟨w2, ?_⟩
    show (tRet (tVar 1)) Dn σ' H'
    have v1 := S'.sl 1 (.val (.ref D)) rfl
    refine ⟨.ref D, join_some v1, ?_⟩
    obtain ⟨G3, y1, y2, y3, y4⟩ := freezeAll (l'.map fun q => (q.1, q.2.map fun n : Nat => V.int (n : Int))) G' S'.xt (by rw [List.map_map]; exact N'.nd) fun q hq => by
      obtain ⟨r, hr, rfl⟩ := List.mem_map.mp hq
      exact N'.at' r hr
    have gD : G3 D = none := by
      rw [y4 D (by rw [List.map_map]; exact N'.nm)]
      exact N'.gD
    refine O.rt (.ref D) _ _ H' (y1.obj N'.h0D gD N'.hD) (.lst upd_same ?_) k
    have eG : Ex G3 (upd G3 D (.lst (l'.map fun q => V.ref q.1))) := Ex.new gD
    have e6 : ((List.range xs.length).map fun s => PyData.list ((ys.filter fun n => f n == s).map fun n : Nat => .int (n : Int))) = (l'.map (·.2)).map fun l => PyData.list (l.map fun n : Nat => .int (n : Int)) := by rw [el', List.map_map]; rfl
    rw [e6, List.map_map]
    have go : ∀ (l2 : List (Addr × List Nat)), (∀ q ∈ l2, q ∈ l') → RpAll K (upd G3 D (.lst (l'.map fun q => V.ref q.1))) (l2.map fun q => V.ref q.1) (l2.map ((fun l => PyData.list (l.map fun n : Nat => .int (n : Int))) ∘ fun x => x.2)) := fun l2 => by
      induction l2 with
      | nil => intro _; exact .nil
      | cons q l2 ih =>
        intro h
        refine .cons (.lst (eG _ _ (y3 _ (List.mem_map.mpr ⟨q, h q List.mem_cons_self, rfl⟩))) ?_) (ih fun r hr => h r (List.mem_cons_of_mem _ hr))
        have := RpAll.ofInts (K := K) (H := upd G3 D (.lst (l'.map fun q => V.ref q.1))) (q.2.map fun n : Nat => (n : Int))
        rw [List.map_map, List.map_map] at this
        exact this
    exact go l' fun q h => h
end
theorem pt_truthK {X : Cx} {K : PySem.W.Frag} {a : Expr} {ta : TE} (hK : X.K = K) (ha : PE X a ta) (he : ∀ whole, isTrue a X.env whole = (do let v ← whole; standAt a.pos; holding [v] (truthy v))) : PT X a (fun σ H Q => ta σ H fun x H' => ∃ k, TruV K x H' k ∧ Q k H') := by
  subst hK
  exact pt_truth ha he
end Kd

/-! Kd, part P: sorted of a dict whose keys are tuples of whole numbers; a call of a local name. -/
namespace Kd
open PySem PySem.Spec PyProof.Rows L2 Evl

/-- some tuples of the heap are known from now on -/
theorem Xt.tups {m : Option Addr} {G H G2 H2 : Hp} (x : Xt m G H G2 H2) (bs : List Addr) (hb : ∀ b ∈ bs, ∃ xs, H2 b = some (.tup xs)) : ∃ G3, Xt m G H G3 H2 ∧ Ex G2 G3 ∧ (∀ b ∈ bs, G3 b = H2 b) ∧ ∀ a, a ∉ bs → G3 a = G2 a := by
  have e2 : Ex G2 (fun a => if a ∈ bs then H2 a else G2 a) := fun a o e => by
    show (if a ∈ bs then H2 a else G2 a) = some o
    split
    · exact x.gh a o e
    · exact e
  refine ⟨fun a => if a ∈ bs then H2 a else G2 a, ⟨x.gg.trans e2, x.hh, fun a o e => ?_, fun a g k => ?_, x.nn, x.pt, x.nt⟩, e2, fun b h => if_pos h, fun a h => if_neg h⟩
  · have e : (if a ∈ bs then H2 a else G2 a) = some o := e
    split at e
    · exact e
    · exact x.gh a o e
  · show (if a ∈ bs then H2 a else G2 a) = none
    split
    · rename_i hm
      obtain ⟨xs, e⟩ := hb a hm
      have := x.nt a k
      rw [e] at this
      exact nomatch this
    · exact x.fr a g k
theorem perm_pre {α β : Type} {f : α → β} {l m : List β} (p : l.Perm m) : ∀ P : List α, m = P.map f → ∃ P' : List α, P'.Perm P ∧ l = P'.map f := by
  induction p with
  | nil =>
    intro P h
    cases P with
    | nil => exact ⟨[], .refl _, rfl⟩
    | cons a P => exact nomatch h
  | cons x _ ih =>
    intro P h
    cases P with
    | nil => exact nomatch h
    | cons a P =>
      rw [List.map_cons] at h
      injection h with h1 h2
      obtain ⟨P', h3, h4⟩ := ih P h2
      exact ⟨a :: P', h3.cons a, by rw [List.map_cons, h1, h4]⟩
  | swap x y l =>
    intro P h
    cases P with
    | nil => exact nomatch h
    | cons a P =>
      cases P with
      | nil => simp at h
      | cons b P =>
        rw [List.map_cons, List.map_cons] at h
        injection h with h1 h2
        injection h2 with h2 h3
        exact ⟨b :: a :: P, .swap _ _ _, by rw [List.map_cons, List.map_cons, h1, h2, h3]⟩
  | trans _ _ ih1 ih2 =>
    intro P h
    obtain ⟨P2, h3, h4⟩ := ih2 P h
    obtain ⟨P1, h5, h6⟩ := ih1 P2 h4
    exact ⟨P1, h5.trans h3, h6⟩
def rSortedDT : List V → Hp → VK → Prop := fun vs H Q => ∃ (a : Addr) (kvs : List (List Key × V)) (L : List (List Int)) (d : Nat) (B : Int), vs = [.ref a] ∧ H a = some (.dT kvs) ∧ kvs.map (·.1) = L.map (fun l => l.map Sum.inl) ∧ L.length < 64 ∧ 1 ≤ d ∧ (∀ l ∈ L, l.length = d ∧ TS.Bd B l) ∧
  ∀ (bs : List (Addr × List Int)) (p : Addr), (bs.map (·.2)).Perm L → bs.Pairwise (fun q r => TS.code B q.2 ≤ TS.code B r.2) → (∀ q ∈ bs, H q.1 = some (.tup (q.2.map V.int))) → H p = none → Q (.ref p) (upd H p (.lst (bs.map fun q => V.ref q.1)))
section
variable {X : Cx}
theorem kt_pairs {H : Hp} : ∀ {kvs : List (List Key × V)} {ks : List (List Key × Addr × Value)} {L : List (List Int)}, KT H kvs ks → kvs.map (·.1) = L.map (fun l => l.map Sum.inl) → ∃ bs : List (Addr × List Int), bs.map (·.2) = L ∧ (ks.map fun x => Value.ref x.2.1) = bs.map (fun q => Value.ref q.1) ∧ ∀ q ∈ bs, H q.1 = some (.tup (q.2.map V.int))
  | [], [], [], _, _ => ⟨[], rfl, rfl, fun _ h => nomatch h⟩
  | [], _, _ :: _, _, h => nomatch h
  | _ :: _, _, [], _, h => nomatch h
  | kv :: kvs, k :: ks, l :: L, .cons h t, e => by
    rw [List.map_cons, List.map_cons] at e
    injection e with e1 e2
    obtain ⟨bs, b1, b2, b3⟩ := kt_pairs t e2
    refine ⟨(k.2.1, l) :: bs, by rw [List.map_cons, b1], by rw [List.map_cons, List.map_cons, b2], fun q hq => ?_⟩
    rcases List.mem_cons.mp hq with rfl | hq
    · have := h.2.1
      rw [e1, List.map_map] at this
      exact this
    · exact b3 q hq
theorem cr_sortedDT (hcalm : X.calm = true) : CallR X (.builtin "sorted") rSortedDT := by
  intro pins s σ H xs us Q I r q
  obtain ⟨d, kvs, L, dl, B, rfl, hd, hks, h64, h1, hB, q⟩ := q
  obtain ⟨u, rfl, rx⟩ := r.one
  cases rx
  obtain ⟨z, hs, ks, pr, o, es, ep, ho, hx, hdt, he, hn⟩ := (show ObjOk X.prog X.w H s.heap d (.dT kvs) from (show Rd H d (.dT kvs) from .inl hd).ok I.hok)
  have l1 : es.size = ks.length := size_of_entries he
  have l2 : kvs.length = ks.length := Paired.length pr
  have l3 : kvs.length = L.length := by
    have := congrArg List.length hks
    rw [List.length_map, List.length_map] at this
    exact this
  obtain ⟨bs, b1, b2, b3⟩ := kt_pairs pr hks
  refine Calls.call_function_entry PyProof.Rows.kind_sorted PyProof.Rows.plain_sorted PyProof.Rows.entry_sorted (PyProof.Rows.args_sorted1 _) ?_
  unfold Builtin.«sorted»
  refine wpAny_bind (m := checkCount "sorted" 1 1 _) (wpAny_pure ?_)
  refine wpAny_bind (PySem.W.kdu_collect (A := X.A.in1) (kdl_raw hs hx hdt) (I.ok.hd hcalm) ho (by rw [sizeLine_eq]; omega) fun h' tk acc hk hacc => ?_)
  have ea : acc.toList = ks.map fun x => Value.ref x.2.1 := by
    have hl : acc.toList.length = ks.length := by rw [Array.length_toList, hacc.1]; exact l1
    apply List.ext_getElem?
    intro j
    rw [List.getElem?_map]
    cases hj : acc.toList[j]? with
    | none =>
      have h1 := List.getElem?_eq_none_iff.mp hj
      rw [List.getElem?_eq_none (by omega)]
      all_goals rfl
    | some v =>
      obtain ⟨en, hen, hv⟩ := hacc.2 j v (by rw [← Array.getElem?_toList]; exact hj)
      have qe := entry_at he j
      rw [hen] at qe
      cases hb : ks[j]? with
      | none =>
        rw [hb] at qe
        exact nomatch (show some en = none from qe)
      | some b =>
        rw [hb] at qe
        have e2 : en = entryOfKey (tupleKind (mixKind X.prog X.w)) b := Option.some.inj qe
        rw [hv, e2]
        all_goals rfl
  rw [b2] at ea
  have I1 : Inv X pins σ H { s with heap := h', toks := tk } := I.kept hk
  have hal : acc.toList.length < 64 := by
    rw [ea, List.length_map]
    have := congrArg List.length b1
    rw [List.length_map] at this
    omega
  refine wpAny_bind (wpAny_newList ?_ (by rw [sizeLine_eq]; omega))
  have hoL : (h'.push (seqObj "list" acc.toList.toArray 0)).get? h'.objs.size = some (seqObj "list" acc.toList.toArray 0) := Heap.get?_push_size _ rfl
  have kp : ∀ b u, h'.get? b = some u → (h'.push (seqObj "list" acc.toList.toArray 0)).get? b = some u := fun b u e => Heap.get?_push_of_some _ e
  have tup : ∀ qq ∈ bs, TS.TupInts (h'.push (seqObj "list" acc.toList.toArray 0)) (.ref qq.1) qq.2 := fun qq hq => by
    obtain ⟨_, its, r, ob, k1, k2, n, k3⟩ := (show ObjOk X.prog X.w H h' qq.1 (.tup (qq.2.map V.int)) from I1.hok qq.1 _ (b3 qq hq))
    exact ⟨qq.1, its.toArray, rfl, ⟨ob, kp _ _ k1, k2, n, k3⟩, by simpa using r.ints⟩
  have x : TS.TupsOk (h'.push (seqObj "list" acc.toList.toArray 0)) dl B acc.toList := fun v hv => by
    rw [ea] at hv
    obtain ⟨qq, hq, e⟩ := List.mem_map.mp hv
    rw [← e]
    have hm : qq.2 ∈ L := by rw [← b1]; exact List.mem_map.mpr ⟨qq, hq, rfl⟩
    exact ⟨qq.2, tup qq hq, (hB _ hm).1, (hB _ hm).2⟩
  refine wpAny_bind (wpAny_holding (TS.call_sort_tups (s := { s with heap := h'.push (seqObj "list" acc.toList.toArray 0), toks := tk }) hoL hal h1 x fun out a1 a2 => ?_))
  obtain ⟨c, hc⟩ := sortedHeap_at (vs := acc.toList) (out := out) hoL
  obtain ⟨bs', p1, p2⟩ := perm_pre (f := fun q : Addr × List Int => Value.ref q.1) a1 bs ea
  have hmem : ∀ qq ∈ bs', qq ∈ bs := fun qq h => p1.mem_iff.mp h
  have pw : bs'.Pairwise (fun q r => TS.code B q.2 ≤ TS.code B r.2) := by
    rw [p2] at a2
    refine List.Pairwise.imp_of_mem (fun {q r} hq hr hle => ?_) (List.pairwise_map.mp a2)
    have f1 := (tup q (hmem q hq)).ints
    have f2 := (tup r (hmem r hr)).ints
    rw [← f1, ← f2]
    exact hle
  have pm : (bs'.map (·.2)).Perm L := by
    rw [← b1]
    exact p1.map _
  have hlen : (bs'.map fun q => V.ref q.1).length ≤ sizeLine := by
    rw [List.length_map, p1.length_eq]
    have := congrArg List.length b1
    rw [List.length_map] at this
    rw [sizeLine_eq]; omega
  have rv : Vals (bs'.map fun q => V.ref q.1) out.toList := by
    rw [p2]
    have := vals_refs (bs'.map (·.1))
    rw [List.map_map, List.map_map] at this
    exact this
  refine wpAny_pure ⟨_, rfl, .ref h'.objs.size, upd H h'.objs.size (.lst (bs'.map fun q => V.ref q.1)), I1.laid (t' := tk) (fun b u e => ?_) (Nat.le_refl _)
    (show ObjOk X.prog X.w _ _ _ (.lst (bs'.map fun q => V.ref q.1)) from ⟨hlen, out.toList, c, rv, by rw [Array.toArray_toList]; exact hc⟩), rfl, q bs' _ pm pw (fun qq h => b3 qq (hmem qq h)) (I1.hok.fresh (Nat.le_refl _))⟩
  have hb : b < h'.objs.size := Heap.lt_size e
  show (sortedHeap (h'.push (seqObj "list" acc.toList.toArray 0)) h'.objs.size acc.toList out).get? b = some u
  rw [PyProof.Rows.sortedHeap_old (Nat.ne_of_lt hb) (by rw [size_push']; exact Nat.lt_succ_of_lt hb)]
  exact Heap.get?_push_of_some _ e
end
/-! ### the order of rows of small numbers -/
def insT (B : Int) (x : List Int) : List (List Int) → List (List Int)
  | [] => [x]
  | y :: ys => if TS.code B x ≤ TS.code B y then x :: y :: ys else y :: insT B x ys
def sortT (B : Int) : List (List Int) → List (List Int)
  | [] => []
  | x :: xs => insT B x (sortT B xs)
theorem insT_perm (B : Int) (x : List Int) : ∀ l : List (List Int), (insT B x l).Perm (x :: l)
  | [] => .refl _
  | y :: ys => by
    unfold insT
    split
    · exact .refl _
    · exact ((insT_perm B x ys).cons y).trans (.swap x y ys)
theorem sortT_perm (B : Int) : ∀ l : List (List Int), (sortT B l).Perm l
  | [] => .refl _
  | x :: xs => (insT_perm B x _).trans ((sortT_perm B xs).cons x)
theorem insT_sorted (B : Int) (x : List Int) : ∀ {l : List (List Int)}, l.Pairwise (fun a b => TS.code B a ≤ TS.code B b) → (insT B x l).Pairwise (fun a b => TS.code B a ≤ TS.code B b)
  | [], _ => List.pairwise_singleton _ _
  | y :: ys, h => by
    unfold insT
    have h1 := List.pairwise_cons.mp h
    split
    · refine List.pairwise_cons.mpr ⟨fun z hz => ?_, h⟩
      rcases List.mem_cons.mp hz with e | hz
      · rw [e]; assumption
      · have := h1.1 z hz
        omega
    · refine List.pairwise_cons.mpr ⟨fun z hz => ?_, insT_sorted B x h1.2⟩
      rcases List.mem_cons.mp ((insT_perm B x ys).mem_iff.mp hz) with e | hz
      · rw [e]; omega
      · exact h1.1 z hz
theorem sortT_sorted (B : Int) : ∀ l : List (List Int), (sortT B l).Pairwise (fun a b => TS.code B a ≤ TS.code B b)
  | [] => .nil
  | x :: xs => insT_sorted B x (sortT_sorted B xs)
theorem code_lt {B : Int} (hB : 1 ≤ B) : ∀ {l : List Int}, TS.Bd B l → 0 ≤ TS.code B l ∧ TS.code B l < B ^ l.length
  | [], _ => by
    show (0 : Int) ≤ 0 ∧ (0 : Int) < B ^ 0
    rw [Int.pow_zero]
    omega
  | d :: r, h => by
    obtain ⟨c0, c1⟩ := code_lt hB (l := r) h.tail
    obtain ⟨d0, d1⟩ := h.head
    have := TS.num1 c0 c1 d0 d1
    show 0 ≤ d * B ^ r.length + TS.code B r ∧ d * B ^ r.length + TS.code B r < B ^ (r.length + 1)
    rw [Int.pow_succ]
    exact this
theorem code_inj {B : Int} (hB : 1 ≤ B) : ∀ {a b : List Int}, TS.Bd B a → TS.Bd B b → a.length = b.length → TS.code B a = TS.code B b → a = b
  | [], [], _, _, _, _ => rfl
  | [], _ :: _, _, _, l, _ => nomatch l
  | _ :: _, [], _, _, l, _ => nomatch l
  | x :: a, y :: b, ha, hb, l, h => by
    have l' : a.length = b.length := by simpa using l
    obtain ⟨a0, a1⟩ := code_lt hB ha.tail
    obtain ⟨b0, b1⟩ := code_lt hB hb.tail
    have h : x * B ^ a.length + TS.code B a = y * B ^ b.length + TS.code B b := h
    rw [l'] at h a1
    have hP : 0 < B ^ b.length := by omega
    have exy : x = y := by
      have e1 : (x * B ^ b.length + TS.code B a) / B ^ b.length = x := by
        rw [Int.add_comm, Int.add_mul_ediv_right _ _ (by omega), Int.ediv_eq_zero_of_lt a0 a1, Int.zero_add]
      have e2 : (y * B ^ b.length + TS.code B b) / B ^ b.length = y := by
        rw [Int.add_comm, Int.add_mul_ediv_right _ _ (by omega), Int.ediv_eq_zero_of_lt b0 b1, Int.zero_add]
      rw [← e1, ← e2, h]
    subst exy
    rw [code_inj hB ha.tail hb.tail l' (by omega)]
section
variable {K : PySem.W.Frag} {ρ : Rho} {te : TE} {tA : TA} {d : PyData} {ds : List PyData} {i : Nat} {ss : List Sl}
theorem el_sortedO {L : List (List Int)} {dl : Nat} {B : Int} (hi : ρ[i]? = some (.ownD (L.map fun l => l.map Sum.inl) ds)) (h64 : L.length < 64) (hd : 1 ≤ dl) (hB1 : 1 ≤ B) (hB : ∀ l ∈ L, l.length = dl ∧ TS.Bd B l) : EL K (tCB rSortedDT (tCons (tVar i) tNil)) ρ ((sortT B L).map fun l => .tuple (l.map PyData.int)) := fun m G0 H0 G σ H S Q q => by
  obtain ⟨p, xs, f1, f2, f3, fl, f4, f5⟩ := S.sl i _ hi
  refine ⟨.ref p, join_some f1, p, _, L, dl, B, rfl, f4, keys_zip fl, h64, hd, hB, fun bs p' b1 b2 b3 hp => ?_⟩
  have e1 : bs.map (·.2) = sortT B L := by
    refine (b1.trans (sortT_perm B L).symm).eq_of_pairwise (le := fun a b => TS.code B a ≤ TS.code B b) (fun a b ha hb h1 h2 => ?_) (List.pairwise_map.mpr b2) (sortT_sorted B L)
    have ma := hB a (b1.mem_iff.mp ha)
    have mb := hB b ((sortT_perm B L).mem_iff.mp hb)
    exact code_inj hB1 ma.2 mb.2 (ma.1.trans mb.1.symm) (by omega)
  obtain ⟨G3, y1, y2, y3, y4⟩ := (Xt.refl (m := m) S.xt.gh).tups (bs.map (·.1)) fun b hb => by
    obtain ⟨qq, hq, rfl⟩ := List.mem_map.mp hb
    exact ⟨_, b3 qq hq⟩
  have x3 := y1.trans (Xt.new0 (o := .lst (bs.map fun q => V.ref q.1)) y1.gh hp)
  refine q p' _ G3 _ x3 hp (fresh_back y1.gh hp) upd_same ?_
  rw [← e1, List.map_map]
  have go : ∀ l : List (Addr × List Int), (∀ qq ∈ l, qq ∈ bs) → RpAll K G3 (l.map fun q => V.ref q.1) (l.map ((fun l => PyData.tuple (l.map PyData.int)) ∘ fun x => x.2)) := fun l => by
    induction l with
    | nil => intro _; exact .nil
    | cons qq l ih =>
      intro h
      have hm := h qq List.mem_cons_self
      exact .cons (.tup (.inl (.inl (by rw [y3 qq.1 (List.mem_map.mpr ⟨qq, hm, rfl⟩)]; exact b3 qq hm))) (RpAll.ofInts _)) (ih fun r hr => h r (List.mem_cons_of_mem _ hr))
  exact go bs fun _ h => h
/-- a local name that holds a def is called -/
theorem ex_callL {f : Addr} {R : List Sl → (PyData → Prop) → Prop} {E : XK} (hi : ρ[i]? = some (.val (.ref f))) (h : EA K tA ρ fun us => us = ss) (hR : R ss fun e => e = d) : EX K (tCallL i f (spR K R) [] E tA) ρ d := fun m G0 H0 G σ H S Q q => by
  have h1 := S.sl i _ hi
  exact ⟨join_some h1, ex_call (E := E) h hR m G0 H0 G σ H S Q q⟩
end
end Kd

/-! Kd, part Q: a list comprehension with two sources. -/
namespace Kd
open PySem PySem.Spec PyProof.Rows L2 Evl

theorem pi_listK {X : Cx} {tg l : Expr} {tl : TE} {K : PySem.W.Frag} (hK : X.K = K) (hl : PE X l tl) : PI X tg l (iList K tl) := by
  subst hK
  exact pi_list hl
theorem pi_tupK {X : Cx} {tg l : Expr} {tl : TE} {K : PySem.W.Frag} (hK : X.K = K) (hl : PE X l tl) : PI X tg l (iTup K tl) := by
  subst hK
  exact pi_tup hl
section
variable {K : PySem.W.Frag} {ρ : Rho} {te : TE}
theorem el_lc2 {α β : Type} {wi wi1 : TI} {g g1 : TG} {vs vs1 : List Nat} (xs : List α) (injO : α → PyData) (sub : α → List β) (injI : β → PyData) (v : β → PyData) (js js1 : List Nat) (hw : IW K wi ρ fun us => us = xs.map injO) (hj : ∀ j ∈ js, j ∈ vs) (hj1 : ∀ j ∈ js1, j ∈ vs1) (hz : (xs.flatMap sub).length ≤ 40000)
    (ht : ∀ x ∈ xs, ∃ ρ', GD K g (injO x) (wipeR ρ vs) ρ' js ∧ (∀ (i : Nat) (s : Sl), ρ'[i]? = some s → s.owns = false) ∧ (IW K wi1 ρ' fun us => us = (sub x).map injI) ∧ ∀ y ∈ sub x, ∃ ρ'', GD K g1 (injI y) (wipeR ρ' vs1) ρ'' js1 ∧ EX K te ρ'' (v y)) :
    EL K (tLc2 wi g tYes wi1 g1 tYes te vs vs1) ρ ((xs.flatMap sub).map v) := fun m G0 H0 G σ H S Q q =>
  hw m G0 H0 G σ H S _ fun J us G1 H1 x1 wk eu => by
    subst eu
    intro D hD
    have S1 := S.step x1
    have pD : m ≠ some D := fun z => S1.potH D z hD
    have h0D : H0 D = none := S1.xt.freeB hD
    refine ⟨fun i n H' => n = xs.length - i ∧ i ≤ xs.length ∧ ∃ G' acc, Xt m G1 H1 G' H' ∧ G' D = none ∧ H' D = some (.lst acc) ∧ RpAll K G' acc (((xs.take i).flatMap sub).map v), ⟨xs.length, rfl, Nat.zero_le _, G1, [], Xt.new0 x1.gh hD, fresh_back x1.gh hD, upd_same, .nil⟩, ?_⟩
    rintro i n H' ⟨rfl, hi, G', acc, x', gD, hacc, ra⟩
    obtain ⟨w1, w2⟩ := wk m G' H' x'.gg x'.gh
    by_cases hlt : i < xs.length
    · have hg : (xs.map injO)[i]? = some (injO xs[i]) := by rw [List.getElem?_map, List.getElem?_eq_getElem hlt]; rfl
      obtain ⟨go, yl⟩ := w1 i _ hg
      refine .inr ⟨go, fun H2 => ∃ G2 acc, Xt m G1 H1 G2 H2 ∧ G2 D = none ∧ H2 D = some (.lst acc) ∧ RpAll K G2 acc (((xs.take (i + 1)).flatMap sub).map v), fun H2 ⟨G2, acc, a1, a2, a3, a4⟩ => ⟨xs.length - (i + 1), by omega, rfl, hlt, G2, acc, a1, a2, a3, a4⟩, fun x H2 y => ?_⟩
      obtain ⟨G2, x2, r2⟩ := yl x H2 y
      obtain ⟨ρ', gd, no, iw, hin⟩ := ht xs[i] (List.getElem_mem hlt)
      have S2 := ((S1.step x').step x2).wiped vs
      refine gd m G0 H0 G2 _ H2 x S2 r2 _ fun σ3 S3 wq => ⟨by rw [wq vs hj, wipe_wipe fun _ h => h], ?_⟩
      refine et_yes m G0 H0 G2 σ3 H2 S3 _ fun G4 H4 x4 => ?_
      rw [if_pos rfl]
      have S4 := S3.step x4
      refine iw m G0 H0 G4 σ3 H4 S4 _ fun J1 us1 G5 H5 x5 wk1 eu1 => ?_
      subst eu1
      have tk : xs.take (i + 1) = xs.take i ++ [xs[i]] := (List.take_append_getElem hlt).symm
      have x25 := (x2.trans x4).trans x5
      have hacc5 : H5 D = some (.lst acc) := x25.hh D _ pD hacc
      have gD5 : G5 D = none := x25.fr D gD (by rw [hacc]; rfl)
      refine ⟨fun j k H' => k = (sub xs[i]).length - j ∧ j ≤ (sub xs[i]).length ∧ ∃ G6 acc, Xt m G1 H1 G6 H' ∧ Ex G5 G6 ∧ Sta K m G0 H0 G6 σ3 H' ρ' ∧ G6 D = none ∧ H' D = some (.lst acc) ∧ RpAll K G6 acc ((((xs.take i).flatMap sub) ++ (sub xs[i]).take j).map v),
        ⟨(sub xs[i]).length, rfl, Nat.zero_le _, G5, acc, x'.trans x25, Ex.refl G5, S4.step x5, gD5, hacc5, by rw [List.take_zero, List.append_nil]; exact ra.mono x25.gg⟩, ?_⟩
      rintro j k H' ⟨rfl, hj', G6, acc6, x6, e56, S6, gD6, hacc6, ra6⟩
      obtain ⟨u1, u2⟩ := wk1 m G6 H' e56 x6.gh
      by_cases hlt1 : j < (sub xs[i]).length
      · have hg1 : ((sub xs[i]).map injI)[j]? = some (injI (sub xs[i])[j]) := by rw [List.getElem?_map, List.getElem?_eq_getElem hlt1]; rfl
        obtain ⟨go1, yl1⟩ := u1 j _ hg1
        refine .inr ⟨go1, fun H' => ∃ G6 acc, Xt m G1 H1 G6 H' ∧ Ex G5 G6 ∧ Sta K m G0 H0 G6 σ3 H' ρ' ∧ G6 D = none ∧ H' D = some (.lst acc) ∧ RpAll K G6 acc ((((xs.take i).flatMap sub) ++ (sub xs[i]).take (j + 1)).map v), fun H2 ⟨G2, acc, a1, a2, a3, a4, a5, a6⟩ => ⟨(sub xs[i]).length - (j + 1), by omega, rfl, hlt1, G2, acc, a1, a2, a3, a4, a5, a6⟩, fun z H7 y1 => ?_⟩
        obtain ⟨G7, x7, r7⟩ := yl1 z H7 y1
        obtain ⟨ρ'', gd1, ee⟩ := hin _ (List.getElem_mem hlt1)
        have S7 := (S6.step x7).wiped vs1
        refine gd1 m G0 H0 G7 _ H7 z S7 r7 _ fun σ8 S8 wq1 => ⟨by rw [wq1 vs1 hj1, wipe_wipe fun _ h => h], ?_⟩
        refine et_yes m G0 H0 G7 σ8 H7 S8 _ fun G8 H8 x8 => ?_
        rw [if_pos rfl]
        refine ee m G0 H0 G8 σ8 H8 (S8.step x8) _ fun yv G9 H9 x9 r9 => ?_
        have x79 := (x7.trans x8).trans x9
        have hacc9 : H9 D = some (.lst acc6) := x79.hh D _ pD hacc6
        have gD9 : G9 D = none := x79.fr D gD6 (by rw [hacc6]; rfl)
        have tk1 : (sub xs[i]).take (j + 1) = (sub xs[i]).take j ++ [(sub xs[i])[j]] := (List.take_append_getElem hlt1).symm
        have pre : ((xs.take i).flatMap sub ++ (sub xs[i]).take j).length < (xs.flatMap sub).length := by
          have e1 : xs = xs.take i ++ xs[i] :: xs.drop (i + 1) := by rw [← List.drop_eq_getElem_cons hlt, List.take_append_drop]
          have e2 : (xs.flatMap sub).length = ((xs.take i).flatMap sub).length + (sub xs[i]).length + ((xs.drop (i + 1)).flatMap sub).length := by
            conv => lhs; rw [e1]
            rw [List.flatMap_append, List.flatMap_cons, List.length_append, List.length_append]
            omega
          rw [List.length_append, List.length_take]
          omega
        refine ⟨acc6, hacc9, sz_lt ?_, G9, _, (x6.trans x79).mut hD gD9 S1.potH, e56.trans x79.gg, (S6.step x79).mutX gD9 h0D no, gD9, upd_same, ?_⟩
        · rw [ra6.len, List.length_map]
          omega
        · rw [tk1, ← List.append_assoc, List.map_append (l₂ := [_])]
          exact (ra6.mono x79.gg).app (.one r9)
      · have ej : j = (sub xs[i]).length := by omega
        subst ej
        rw [List.length_map] at u2
        refine .inl ⟨u2, G6, acc6, x6, gD6, hacc6, ?_⟩
        rw [List.take_length] at ra6
        rw [tk, List.flatMap_append, List.flatMap_cons, List.flatMap_nil, List.append_nil]
        exact ra6
    · have ei : i = xs.length := by omega
      subst ei
      rw [List.take_length] at ra
      rw [List.length_map] at w2
      exact .inl ⟨w2, q D acc G' H' (x1.trans x') (x1.freeB hD) gD hacc ra⟩
end
end Kd

/-! Kd, part R: what is drawn: some data of which something is known; the pot is changed. -/
namespace Kd
open PySem PySem.Spec PyProof.Rows L2 Evl

section
variable {K : PySem.W.Frag} {ρ ρ' : Rho} {te ta tb tc : TE} {tt tu : TT} {d e z : PyData} {ds es : List PyData} {P P1 P2 : PyData → Prop} {i j : Nat} {r : R2} {x y : Int} {tA tR : TA} {E : DE}
/-- a whole number from lo up to below hi -/
def NB (lo hi : Int) (d : PyData) : Prop := ∃ x : Int, d = .int x ∧ lo ≤ x ∧ x < hi
theorem EX.nb {lo hi : Int} (h : EX K te ρ (.int x)) (h1 : lo ≤ x) (h2 : x < hi) : ED K te ρ (NB lo hi) := h.ed ⟨x, rfl, h1, h2⟩
theorem ed_opI {g : Int → Int → Int} {C : Int → Int → Prop} {a1 b1 a2 b2 lo hi : Int} (ha : ED K ta ρ (NB a1 b1)) (hb : ED K tb ρ (NB a2 b2)) (h : ∀ x y, a1 ≤ x → x < b1 → a2 ≤ y → y < b2 → C x y ∧ lo ≤ g x y ∧ g x y < hi) : ED K (tOp (rI C fun i j => .int (g i j)) ta tb) ρ (NB lo hi) :=
  ed_op ha hb fun d e ⟨x, hx, x1, x2⟩ ⟨y, hy, y1, y2⟩ => by
    obtain ⟨c, l, u⟩ := h x y x1 x2 y1 y2
    subst hx hy
    exact ⟨_, rx_intC c, _, rfl, l, u⟩
theorem ed_opI0 {g : Int → Int → Int} {a1 b1 a2 b2 lo hi : Int} (ha : ED K ta ρ (NB a1 b1)) (hb : ED K tb ρ (NB a2 b2)) (h : ∀ x y, a1 ≤ x → x < b1 → a2 ≤ y → y < b2 → lo ≤ g x y ∧ g x y < hi) : ED K (tOp (rI0 fun i j => .int (g i j)) ta tb) ρ (NB lo hi) :=
  ed_op ha hb fun d e ⟨x, hx, x1, x2⟩ ⟨y, hy, y1, y2⟩ => by
    obtain ⟨l, u⟩ := h x y x1 x2 y1 y2
    subst hx hy
    exact ⟨_, rx_int, _, rfl, l, u⟩
theorem ed_cb1 {r : List V → Hp → VK → Prop} (h : ED K te ρ P1) (hr : ∀ d, P1 d → ∃ z, RCX K r [d] z ∧ P z) : ED K (tCB r (tCons te tNil)) ρ P := fun m G0 H0 G σ H S Q q =>
  h m G0 H0 G σ H S _ fun v d G1 H1 x1 r1 p1 => by
    obtain ⟨z, hz, pz⟩ := hr d p1
    exact hz m G1 H1 [v] x1.gh (.one r1) Q fun u G2 H2 x2 r2 => q u z G2 H2 (x1.trans x2) r2 pz
theorem ed_int1 {lo hi : Int} (h : ED K te ρ (NB lo hi)) : ED K (tCB (fun xs H Q => (∃ i, xs = [.int i] ∧ Q (.int i) H) ∨ ∃ k, xs = [.bl k] ∧ Q (.int (if k then 1 else 0)) H) (tCons te tNil)) ρ (NB lo hi) :=
  ed_cb1 h fun d ⟨x, hx, x1, x2⟩ => by
    subst hx
    exact ⟨_, rcx_int1, x, rfl, x1, x2⟩
theorem edx_if {b : Bool} (h : ET K tt ρ b) (h1 : b = true → ED K ta ρ P) (h2 : b = false → ED K tb ρ P) : ED K (tIf tt ta tb) ρ P := ed_if (h.p (P := fun c => c = b) rfl) (fun e => h1 e.symm) fun e => h2 e.symm
/-- arguments, something known of all -/
def EAD (K : PySem.W.Frag) (ta : TA) (ρ : Rho) (P : List PyData → Prop) : Prop := ∀ m G0 H0 G σ H, Sta K m G0 H0 G σ H ρ → ∀ Q : List V → Hp → Prop, (∀ vs ds G2 H2, Xt m G H G2 H2 → RpAll K G2 vs ds → P ds → Q vs H2) → ta σ H Q
theorem ead_nil : EAD K tNil ρ fun ds => ds = [] := fun m G0 H0 G σ H S Q q => q [] [] G H (Xt.refl S.xt.gh) .nil rfl
theorem ead_cons {Ps : List PyData → Prop} (h : ED K te ρ P) (hr : EAD K tR ρ Ps) : EAD K (tCons te tR) ρ fun ds => ∃ d es, ds = d :: es ∧ P d ∧ Ps es := fun m G0 H0 G σ H S Q q =>
  h m G0 H0 G σ H S _ fun v d G1 H1 x1 r1 p1 => hr m G0 H0 G1 σ H1 (S.step x1) _ fun vs es G2 H2 x2 r2 p2 => q _ _ G2 H2 (x1.trans x2) (.cons (r1.mono x2.gg) r2) ⟨d, es, rfl, p1, p2⟩
theorem ed_lst {Ps : List PyData → Prop} (h : EAD K tA ρ Ps) (hz : ∀ ds, Ps ds → ds.length ≤ 100000) : ED K (tLst tA) ρ fun d => ∃ ds, d = .list ds ∧ Ps ds := fun m G0 H0 G σ H S Q q =>
  h m G0 H0 G σ H S _ fun vs ds G1 H1 x1 r1 p1 => ⟨sz_of (by rw [r1.len]; exact hz ds p1), fun p hp => by
    have x2 := x1.trans (Xt.new0 (o := .lst vs) x1.gh hp)
    exact q (.ref p) (.list ds) _ _ (x2.lst (x1.freeB hp) (fresh_back x1.gh hp) upd_same) (.lst upd_same (r1.mono (Ex.new (fresh_back x1.gh hp)))) ⟨ds, rfl, p1⟩⟩
theorem EAD.imp {Ps Ps' : List PyData → Prop} (h : EAD K tA ρ Ps) (p : ∀ ds, Ps ds → Ps' ds) : EAD K tA ρ Ps' := fun m G0 H0 G σ H S Q q => h m G0 H0 G σ H S Q fun vs ds G2 H2 x r k => q vs ds G2 H2 x r (p ds k)
/-- a call, the pot first, then some number -/
theorem ea_potP {R : List Sl → Prop} (h : ρ[i]? = some .pot) (hd : ED K te ρ P) (hR : ∀ d, P d → R [.pot, .dat d]) : EA K (tCons (tVar i) (tCons te tNil)) ρ R := fun m G0 H0 G σ H S Q q => by
  obtain ⟨p, h1, h2⟩ := S.sl i _ h
  exact ⟨.ref p, join_some h1, hd m G0 H0 G σ H S _ fun v d G1 H1 x1 r1 p1 => q _ _ G1 H1 x1 (.cons (s := .pot) ⟨p, rfl, h2⟩ (.cons (s := .dat d) r1 .nil)) (hR d p1)⟩
/-! ### the pot -/
theorem Sta.potSet {m : Option Addr} {G0 H0 G H : Hp} {σ : L2.St} (S : Sta K m G0 H0 G σ H ρ) {p : Addr} (hm : m = some p) {a b : Int} (ha : 0 ≤ a) (hb : 0 ≤ b) (hb2 : b ≤ 2147483563) : Sta K m G0 H0 G σ (upd H p (.lst [.int a, .int b])) ρ := by
  obtain ⟨gp, h0, hp⟩ := S.pt p hm
  have pa : PotAt (upd H p (.lst [.int a, .int b])) p := ⟨a, b, ha, hb, hb2, upd_same⟩
  have only : ∀ q, m = some q → q = p := fun q e => by rw [hm] at e; exact (Option.some.inj e).symm
  refine ⟨⟨S.xt.gg, fun x u n e => ?_, fun x u e => ?_, S.xt.fr, fun x e => ?_, fun q e h => ?_, fun x e => ?_⟩, fun q e => ?_, S.len, fun j u e => ?_, S.ap⟩
  · have z : x ≠ p := fun z => n (by rw [z]; exact hm)
    rw [upd_ne z]
    exact S.xt.hh x u n e
  · have z : x ≠ p := fun z => by rw [z, gp] at e; cases e
    rw [upd_ne z]
    exact S.xt.gh x u e
  · by_cases z : x = p
    · rw [z, upd_same]
      exact fun z => nomatch z
    · rw [upd_ne z]
      exact S.xt.nn x e
  · rw [only q e]
    exact pa
  · by_cases z : x = p
    · rw [z, upd_same]
      rfl
    · rw [upd_ne z]
      exact S.xt.nt x e
  · rw [only q e]
    exact ⟨gp, h0, pa⟩
  · have q := S.sl j u e
    cases u with
    | no => trivial
    | dat d => exact q
    | own ds =>
      obtain ⟨p', xs, h1, h2, h3, h4, h5⟩ := q
      have z : p' ≠ p := fun z => h0 (by rw [← z]; exact h3)
      exact ⟨p', xs, h1, h2, h3, by rw [upd_ne z]; exact h4, h5⟩
    | ownD ks ds =>
      obtain ⟨p', xs, h1, h2, h3, hl, h4, h5⟩ := q
      have z : p' ≠ p := fun z => h0 (by rw [← z]; exact h3)
      exact ⟨p', xs, h1, h2, h3, hl, by rw [upd_ne z]; exact h4, h5⟩
    | pot => exact q
    | val v => exact q
/-- pot[0], pot[1] -/
theorem ed_pot0 (h : ρ[i]? = some .pot) : ED K (tOp (rIxL K) (tVar i) (tC (.int 0))) ρ fun d => ∃ x : Int, d = .int x ∧ 0 ≤ x := fun m G0 H0 G σ H S Q q => by
  obtain ⟨p, h1, h2⟩ := S.sl i _ h
  obtain ⟨_, _, a, b, k1, k2, k3, hp⟩ := S.pt p h2
  exact ⟨.ref p, join_some h1, p, [.int a, .int b], 0, .int a, rfl, rfl, .inl (.inl hp), rfl, q _ _ G H (Xt.refl S.xt.gh) (.int a) ⟨a, rfl, k1⟩⟩
theorem ed_pot1 (h : ρ[i]? = some .pot) : ED K (tOp (rIxL K) (tVar i) (tC (.int 1))) ρ (NB 0 2147483564) := fun m G0 H0 G σ H S Q q => by
  obtain ⟨p, h1, h2⟩ := S.sl i _ h
  obtain ⟨_, _, a, b, k1, k2, k3, hp⟩ := S.pt p h2
  exact ⟨.ref p, join_some h1, p, [.int a, .int b], 1, .int b, rfl, rfl, .inl (.inl hp), rfl, q _ _ G H (Xt.refl S.xt.gh) (.int b) ⟨b, rfl, k2, by omega⟩⟩
/-- pot[1] = e -/
theorem sd_pot1 (h : ρ[i]? = some .pot) (he : ED K te ρ (NB 0 2147483563)) (k : E.nx ρ) : SD K (tAsg te (gSub (tVar i) (tC (.int 1)) rSetL)) ρ E := fun m G0 H0 G σ H D S O =>
  he m G0 H0 G σ H S _ fun v d G2 H2 x r ⟨b, hb, b1, b2⟩ => by
    subst hb
    cases r
    have S2 := S.step x
    obtain ⟨p, h1, h2⟩ := S2.sl i _ h
    obtain ⟨_, _, a, b', k1, k2, k3, hp⟩ := S2.pt p h2
    refine ⟨.ref p, join_some h1, p, [.int a, .int b'], 1, 1, rfl, rfl, hp, rfl, ?_⟩
    exact O.nx G2 σ _ ρ (S2.potSet h2 k1 b1 (by omega)) k
/-- pot[0], d = divmod(pot[0], n) -/
theorem sd_potDiv {n : Int} {te2 : TE} (h : ρ[i]? = some .pot) (he : EX K te2 ρ (.int n)) (hn : 0 < n ∧ n < 1073741824) (k : ∀ x : Int, 0 ≤ x → x < n → E.nx (ρ.set j (.dat (.int x)))) :
    SD K (tAsg (tCB (fun xs H Q => ∃ i j, xs = [.int i, .int j] ∧ CDiv i j ∧ ∀ p, H p = none → Q (.ref p) (upd H p (.tup [.int (i / j), .int (i % j)]))) (tCons (tOp (rIxL K) (tVar i) (tC (.int 0))) (tCons te2 tNil))) (gTup K 2 (gCons (gSub (tVar i) (tC (.int 0)) rSetL) (gCons (gName j) gNil)))) ρ E := fun m G0 H0 G σ H D S O =>
  ed_pot0 h m G0 H0 G σ H S _ fun v d G1 H1 x1 r1 ⟨a, ha, a0⟩ => by
    subst ha
    cases r1
    refine he m G0 H0 G1 σ H1 (S.step x1) _ fun w G2 H2 x2 r2 => ?_
    cases r2
    refine ⟨a, n, rfl, hn, fun t ht => ?_⟩
    have x3 := (x1.trans x2).trans (Xt.new0 (o := .tup [.int (a / n), .int (a % n)]) x2.gh ht)
    have S3 := S.step x3
    obtain ⟨p, h1, h2⟩ := S3.sl i _ h
    obtain ⟨_, _, a', b', k1, k2, k3, hp⟩ := S3.pt p h2
    refine ⟨t, _, rfl, .inl (.inl upd_same), rfl, .int (a / n), _, rfl, .ref p, join_some h1, p, [.int a', .int b'], 0, 0, rfl, rfl, hp, rfl, .int (a % n), [], rfl, rfl, ?_⟩
    have hmod := Int.emod_nonneg a (show n ≠ 0 by omega)
    have hlt := Int.emod_lt_of_pos a hn.1
    exact O.nx G2 _ _ _ ((S3.potSet h2 (Int.ediv_nonneg a0 (by omega)) k2 k3).setD j (.int _)) (k (a % n) hmod hlt)
end
end Kd

/-! Kd, part S: a walk that answers False at the first find; three names set at once; all orders of some things. -/
namespace Kd
open PySem PySem.Spec PyProof.Rows L2 Evl

section
variable {K : PySem.W.Frag} {ρ ρ' : Rho} {te ta tb tc : TE} {wi : TI} {g : TG} {t : TS} {d e z : PyData} {ds es : List PyData} {P P1 P2 : PyData → Prop} {i j l : Nat} {E : DE}
theorem sd_forAll {α : Type} (xs : List α) (inj : α → PyData) (f : α → Bool) (Sh : Rho → Prop) (hw : IW K wi ρ fun us => us = xs.map inj) (h0 : Sh ρ)
    (hs : ∀ x ∈ xs, ∀ ρ', Sh ρ' → ∃ ρ'' js, GD K g (inj x) ρ' ρ'' js ∧ SD K t ρ'' ⟨fun ρ3 => Sh ρ3 ∧ f x = true, E.rt, fun _ => False, fun ρ3 => Sh ρ3 ∧ f x = true⟩) (hd : xs.all f = true → ∀ ρ', Sh ρ' → E.nx ρ') : SD K (tFor wi g t) ρ E :=
  sd_forX xs inj (fun i ρ' => Sh ρ' ∧ (xs.take i).all f = true) hw ⟨h0, rfl⟩ (fun i x ρ' hx hlt ⟨hS, ha⟩ => by
    obtain ⟨ρ'', js, gd, sd⟩ := hs x (List.mem_of_getElem? hx) ρ' hS
    have tk : xs.take (i + 1) = xs.take i ++ [x] := by
      rw [List.take_add_one, hx]
      rfl
    refine ⟨ρ'', js, gd, sd_imp sd (fun ρ3 h => ⟨h.1, ?_⟩) (fun _ h => h) (fun _ h => h.elim) fun ρ3 h => ⟨h.1, ?_⟩⟩
    · rw [tk, List.all_append, ha]
      simp [h.2]
    · rw [tk, List.all_append, ha]
      simp [h.2]) fun ρ' ⟨hS, ha⟩ => hd (by rw [List.take_length] at ha; exact ha) ρ' hS
theorem sd_par3P {ds : List PyData} (h1 : ED K ta ρ P1) (h2 : ED K tb ρ P2) (h3 : EL K tc ρ ds) (k : ∀ d e, P1 d → P2 e → E.nx (((ρ.set i (.dat d)).set j (.dat e)).set l (.own ds))) : SD K (tPar3 i j l (tCons ta (tCons tb (tCons tc tNil)))) ρ E := fun m G0 H0 G σ H D S O =>
  h1 m G0 H0 G σ H S _ fun v d G1 H1 x1 r1 p1 => h2 m G0 H0 G1 σ H1 (S.step x1) _ fun w e G2 H2 x2 r2 p2 => h3 m G0 H0 G2 σ H2 ((S.step x1).step x2) _ fun p xs G3 H3 x3 hp g3 h3' r3 => by
    have S1 := (((S.step x1).step x2).setD i (r1.mono x2.gg)).setD j r2
    exact ⟨v, w, .ref p, rfl, O.nx G3 _ H3 _ (S1.store (i := l) x3 (s := .own ds) ⟨p, xs, rfl, g3, hp, h3', r3⟩) (k d e p1 p2)⟩
theorem iw_rng1Q {M : Nat} (h : ED K te ρ fun d => ∃ n : Nat, d = .int (n : Int) ∧ n < M) (hM : M ≤ 1000) : IW K (iRng1 (tCons te tNil)) ρ fun es => ∃ n : Nat, n < M ∧ es = (List.range' 0 n).map fun k : Nat => .int (k : Int) := fun m G0 H0 G σ H S R q => h m G0 H0 G σ H S _ fun v d G1 H1 x1 r1 p => by
  obtain ⟨n, rfl, hn⟩ := p
  cases r1
  refine ⟨(n : Int), rfl, by omega, by omega, q _ _ G1 H1 x1 (fun m' => walks_rng) ⟨n, hn, ?_⟩⟩
  rw [Int.toNat_natCast, ← rngD_nat]
  rfl
end
/-! ### all orders -/
def insAll (x : Int) : List Int → List (List Int)
  | [] => [[x]]
  | y :: ys => (x :: y :: ys) :: (insAll x ys).map (y :: ·)
def perms : List Int → List (List Int)
  | [] => [[]]
  | x :: xs => (perms xs).flatMap (insAll x)
theorem mem_insAll (x : Int) : ∀ a b : List Int, a ++ x :: b ∈ insAll x (a ++ b)
  | [], [] => List.mem_cons_self
  | [], y :: b => List.mem_cons_self
  | y :: a, b => List.mem_cons_of_mem _ (List.mem_map.mpr ⟨a ++ x :: b, mem_insAll x a b, rfl⟩)
theorem mem_perms : ∀ (xs v : List Int), v.Perm xs → v ∈ perms xs
  | [], v, h => by rw [h.eq_nil]; exact List.mem_cons_self
  | x :: xs, v, h => by
    obtain ⟨a, b, rfl⟩ := List.append_of_mem (h.mem_iff.mpr List.mem_cons_self)
    have h2 : (a ++ b).Perm xs := (List.perm_middle.symm.trans h).cons_inv
    exact List.mem_flatMap.mpr ⟨a ++ b, mem_perms xs _ h2, mem_insAll x a b⟩
end Kd

/-! The program's basics: is_integer, is_list, is_order, want_at_most, want_order, want_alike. -/
namespace Kd
open PySem PySem.Spec PyProof.Rows L2 Evl

abbrev nI (n : Int) : PyData := .int n
/-- a tuple, a list of whole numbers -/
abbrev tI (ns : List Int) : PyData := .tuple (ns.map PyData.int)
abbrev lI (ns : List Int) : PyData := .list (ns.map PyData.int)
/-- 1 to n -/
def upTo (n : Nat) : List Int := (List.range n).map fun (i : Nat) => (1 : Int) + (i : Int)
theorem rngD_upTo (n : Nat) : rngD 1 n = (upTo n).map PyData.int := by
  unfold rngD upTo
  rw [List.map_map]
  rfl
/-- the numbers 1 to n, each once, n from 1 to 9 -/
def isOrd (ns : List Int) : Bool := decide (1 ≤ ns.length) && (decide (ns.length ≤ 9) && decide (isort ns = upTo ns.length))
theorem canLayAll_ints : ∀ ns : List Int, PyData.canLayAll0 (ns.map PyData.int) = true
  | [] => by simp [PyData.canLayAll0]
  | n :: ns => by
    rw [List.map_cons]
    simp [PyData.canLayAll0, PyData.canLay0, canLayAll_ints ns]
theorem shaped_tI (ns : List Int) : SeqAt.shaped (tI ns) = true := by
  unfold SeqAt.shaped
  have h := PyProof.Rows.depthAll_ints ns
  simp [PyData.canLay0, canLayAll_ints, PyData.depth, h]
theorem shaped_lI (ns : List Int) : SeqAt.shaped (lI ns) = true := by
  unfold SeqAt.shaped
  have h := PyProof.Rows.depthAll_ints ns
  simp [PyData.canLay0, canLayAll_ints, PyData.depth, h]
theorem eqvAll_ints : ∀ a b : List Int, PyData.eqvAll (a.map PyData.int) (b.map PyData.int) = decide (a = b)
  | [], [] => by simp [PyData.eqvAll]
  | [], y :: b => by simp [PyData.eqvAll]
  | x :: a, [] => by simp [PyData.eqvAll]
  | x :: a, y :: b => by
    rw [List.map_cons, List.map_cons]
    simp only [PyData.eqvAll, eqvAll_ints a b, PyData.eqv]
    by_cases e : x = y
    · subst e; simp
    · simp [e]
theorem eqv_tI (a b : List Int) : PyData.eqv (tI a) (tI b) = decide (a = b) := by
  simp only [tI, PyData.eqv, eqvAll_ints]
theorem eqv_lI (a b : List Int) : PyData.eqv (lI a) (lI b) = decide (a = b) := by
  simp only [lI, PyData.eqv, eqvAll_ints]

theorem kit_tab : kitB "int" "int" = some true ∧ kitB "int" "bool" = some false ∧ (kitB "NoneType" "list" = some false ∧ kitB "bool" "list" = some false ∧ kitB "int" "list" = some false ∧ kitB "str" "list" = some false ∧ kitB "list" "list" = some true ∧ kitB "tuple" "list" = some false ∧ kitB "dict" "list" = some false) ∧
    (kitB "NoneType" "tuple" = some false ∧ kitB "bool" "tuple" = some false ∧ kitB "int" "tuple" = some false ∧ kitB "str" "tuple" = some false ∧ kitB "list" "tuple" = some false ∧ kitB "tuple" "tuple" = some true ∧ kitB "dict" "tuple" = some false) := by decide +kernel
def isL (d : PyData) : Bool := tyD d == "list"
def isT (d : PyData) : Bool := tyD d == "tuple"
def isSeq (d : PyData) : Bool := isL d || isT d
theorem kit_L (d : PyData) : kitB (tyD d) "list" = some (isL d) := by
  unfold isL tyD
  split
  · exact kit_tab.2.2.1.1
  · exact kit_tab.2.2.1.2.1
  · exact kit_tab.2.2.1.2.2.1
  · exact kit_tab.2.2.1.2.2.2.1
  · exact kit_tab.2.2.1.2.2.2.2.1
  · exact kit_tab.2.2.1.2.2.2.2.2.1
  · exact kit_tab.2.2.1.2.2.2.2.2.1
  · exact kit_tab.2.2.1.2.2.2.2.2.2
theorem kit_T (d : PyData) : kitB (tyD d) "tuple" = some (isT d) := by
  unfold isT tyD
  split
  · exact kit_tab.2.2.2.1
  · exact kit_tab.2.2.2.2.1
  · exact kit_tab.2.2.2.2.2.1
  · exact kit_tab.2.2.2.2.2.2.1
  · exact kit_tab.2.2.2.2.2.2.2.1
  · exact kit_tab.2.2.2.2.2.2.2.2.1
  · exact kit_tab.2.2.2.2.2.2.2.2.1
  · exact kit_tab.2.2.2.2.2.2.2.2.2
section
variable {P : Program} {w : World} {K : PySem.W.Frag} {mg : Str → Option Value} {base : Heap} {f : Addr} {fd : FuncData}
def R_is_integer (ss : List Sl) (P : PyData → Prop) : Prop := ∃ x : Int, ss = [.dat (.int x)] ∧ P (.bool true)
abbrev sis_integer : Stmt := topS 10
abbrev Nis_integer : List Str := ["value"]
theorem scis_integer : FnScope Nis_integer ["value"] (C8.fnScope sis_integer) := C8.fnScope_by (by decide +kernel)
abbrev sis_list : Stmt := topS 11
abbrev Nis_list : List Str := ["value"]
theorem scis_list : FnScope Nis_list ["value"] (C8.fnScope sis_list) := C8.fnScope_by (by decide +kernel)
abbrev sis_order : Stmt := topS 12
abbrev Nis_order : List Str := ["value", "thing"]
theorem scis_order : FnScope Nis_order ["value"] (C8.fnScope sis_order) := C8.fnScope_by (by decide +kernel)
abbrev swant_at_most : Stmt := topS 13
abbrev Nwant_at_most : List Str := ["what", "limit", "number"]
theorem scwant_at_most : FnScope Nwant_at_most ["what", "limit", "number"] (C8.fnScope swant_at_most) := C8.fnScope_by (by decide +kernel)
abbrev swant_order : Stmt := topS 14
abbrev Nwant_order : List Str := ["value"]
theorem scwant_order : FnScope Nwant_order ["value"] (C8.fnScope swant_order) := C8.fnScope_by (by decide +kernel)
abbrev swant_alike : Stmt := topS 15
abbrev Nwant_alike : List Str := ["order", "other"]
theorem scwant_alike : FnScope Nwant_alike ["order", "other"] (C8.fnScope swant_alike) := C8.fnScope_by (by decide +kernel)
theorem cal_is_integer (F : C8.Def K mg "is_integer" sis_integer f fd) (bd : Binds K fd ["value"] []) (T : BI mg) : C8.Cal P w K mg base 1 "is_integer" (spR K R_is_integer) [] := by
  have sc := scis_integer
  refine def_by F bd sc (by decide) (fun ss P h => by obtain ⟨x, rfl, _⟩ := h; rfl) fun cdv A outer s H E hr => ⟨_, (pss_one (ps_ret (pe_and (pe_callB call_isi (by rfl) T.isinstance (by decide +kernel) (pa_cons (pv 0) (pa_cons (pe_bltn (v := .ty "int") (u := .type "int") (by rfl) T.int (by decide +kernel) rfl) pa_nil))) (pe_one (pe_not (pe_callB call_isi (by rfl) T.isinstance (by decide +kernel) (pa_cons (pv 0) (pa_cons (pe_bltn (v := .ty "bool") (u := .type "bool") (by rfl) T.bool (by decide +kernel) rfl) pa_nil)))))))), fun ss Pd h => ?_⟩
  obtain ⟨x, rfl, h⟩ := h
  exact sd_ret (ex_andV (ex_isi (b := true) (ex_var rfl) kit_tab.1) fun _ => ex_notV (ex_isi (b := false) (ex_var rfl) kit_tab.2.1)) h
def R_is_list (ss : List Sl) (P : PyData → Prop) : Prop := ∃ d, ss = [.dat d] ∧ P (.bool (isSeq d))
theorem cal_is_list (F : C8.Def K mg "is_list" sis_list f fd) (bd : Binds K fd ["value"] []) (T : BI mg) : C8.Cal P w K mg base 1 "is_list" (spR K R_is_list) [] := by
  have sc := scis_list
  refine def_by F bd sc (by decide) (fun ss P h => by obtain ⟨x, rfl, _⟩ := h; rfl) fun cdv A outer s H E hr => ⟨_, (pss_one (ps_ret (pe_callB call_isiT (by rfl) T.isinstance (by decide +kernel) (pa_cons (pv 0) (pa_cons (pe_tup (pa_cons (pe_bltn (v := .ty "list") (u := .type "list") (by rfl) T.list (by decide +kernel) rfl) (pa_cons (pe_bltn (v := .ty "tuple") (u := .type "tuple") (by rfl) T.tuple (by decide +kernel) rfl) pa_nil))) pa_nil))))), fun ss Pd h => ?_⟩
  obtain ⟨d, rfl, h⟩ := h
  exact sd_ret (ex_isi2 (ex_var rfl) (kit_L d) (kit_T d)) h
/-- a list or a tuple of whole numbers; anything else -/
def R_is_order (ss : List Sl) (P : PyData → Prop) : Prop := ∃ d, ss = [.dat d] ∧ ((∃ ns, (d = tI ns ∨ d = lI ns) ∧ ns.length ≤ 63 ∧ P (.bool (isOrd ns))) ∨ (isSeq d = false ∧ P (.bool false)))
theorem rcx_lenI {ns : List Int} {d : PyData} (h : d = tI ns ∨ d = lI ns) : RCX K (fun xs H Q => ∃ p ys, xs = [.ref p] ∧ (SqL K H p ys ∨ SqT K H p ys) ∧ Q (.int ys.length) H) [d] (.int (ns.length : Int)) := by
  have e : (ns.map PyData.int).length = ns.length := List.length_map _
  rcases h with rfl | rfl
  · rw [← e]
    exact rcx_lenT
  · rw [← e]
    exact rcx_lenL
theorem cal_is_order (F : C8.Def K mg "is_order" sis_order f fd) (bd : Binds K fd ["value"] []) (T : BI mg) (g_MOST_THINGS_basics : ∃ u, mg "MOST_THINGS_basics" = some u ∧ RelV (.int 9) u)
    (c_is_list : C8.Cal P w K mg base 1 "is_list" (spR K R_is_list) []) (c_is_integer : C8.Cal P w K mg base 1 "is_integer" (spR K R_is_integer) []) : C8.Cal P w K mg base 2 "is_order" (spR K R_is_order) [] := by
  have sc := scis_order
  refine def_by F bd sc (by decide) (fun ss P h => by obtain ⟨x, rfl, _⟩ := h; rfl) fun cdv A outer s H E hr => ⟨_, (pss_cons (ps_if (PW.pt (pw_or (pt_not (pt_val (C8.pe_c c_is_list hr (by decide) (by rfl) (pa_cons (pv 0) pa_nil)))) (pw_or (pt_not (pt_chain op_le op_le pe_int (pe_callB call_len_seq (by rfl) T.len (by decide +kernel) (pa_cons (pv 0) pa_nil)) (C8.pe_gc rfl g_MOST_THINGS_basics))) (pw_or1 (pt_not (pt_val (pe_callB (cr_all rfl) (by rfl) T.all (by decide +kernel) (pa_cons (pe_lc (own := [("thing", 1)]) rfl sc.nd (pi_seq (pv 0)) (blkOk_by (own := [("thing", 1)]) (N := Nis_order) (sc := C8.fnScope sis_order) (by decide +kernel)) (fun _ _ _ _ _ => (pg_name (i := 1) sc.nd rfl (.inl rfl))) (fun _ _ _ _ _ => pts_nil) (fun _ _ _ _ _ => (C8.pe_c c_is_integer hr (by decide) (by rfl) (pa_cons (pv 1) pa_nil)))) pa_nil)))))))) (pss_one (ps_ret pe_bl)) pss_nil) (pss_one (ps_ret (pe_cmpR (op_eqD hr.units) (pe_callB cr_sortedAny (by rfl) T.sorted (by decide +kernel) (pa_cons (pv 0) pa_nil)) (pe_listRg rfl (by rfl) T.list (prg_2 (by rfl) T.range pe_int (pe_op op_add (pe_callB call_len_seq (by rfl) T.len (by decide +kernel) (pa_cons (pv 0) pa_nil)) pe_int))) (nomark _))))), fun ss Pd h => ?_⟩
  obtain ⟨d, rfl, h⟩ := h
  rcases h with ⟨ns, hd, h63, h⟩ | ⟨hs, h⟩
  · have hs : isSeq d = true := by rcases hd with rfl | rfl <;> rfl
    refine sd_seq (sd_if (b := !(decide (1 ≤ ns.length) && decide (ns.length ≤ 9))) ?_ (fun e => sd_ret ex_bl ?_) fun e => sd_next ?_)
    · refine ET.is (et_or (et_not (et_B (ex_call (ea_dat (ex_var rfl) ea_nil) ⟨d, rfl, rfl⟩))) fun _ => et_or (et_not (et_test (ex_chain ex_int (ex_cb (eax_cons (ex_var rfl) eax_nil) (rcx_lenI hd)) ex_int rx_bl rx_bl))) fun _ => et_not (et_B (ex_cb (eax_cons (EL.ex (EL.is
        (el_lc ns PyData.int (fun _ => true) (fun _ => .bool true) [1] ?_ (fun j h => h) (by omega) fun x hx => ⟨_, gd_name, et_yes, fun _ => ex_call (ea_dat (ex_var rfl) ea_nil) ⟨x, rfl, rfl⟩⟩) (show _ = (ns.map fun _ => true).map PyData.bool from ?_))) eax_nil) rcx_all))) ?_
      · rcases hd with rfl | rfl
        · exact iw_seqT (ex_var rfl)
        · exact iw_seqL (ex_var rfl)
      · rw [List.filter_eq_self.mpr fun _ _ => rfl, List.map_map]
        rfl
      · have e1 : (ns.map fun _ => true).all id = true := by simp
        have e2 : decide ((1 : Int) ≤ (ns.length : Int)) = decide (1 ≤ ns.length) := decide_eq_decide.mpr (by omega)
        have e3 : decide ((ns.length : Int) ≤ 9) = decide (ns.length ≤ 9) := decide_eq_decide.mpr (by omega)
        rw [hs, e1, e2, e3]
        cases decide (1 ≤ ns.length) <;> cases decide (ns.length ≤ 9) <;> rfl
    · have e1 : isOrd ns = false := by
        unfold isOrd
        cases h1 : decide (1 ≤ ns.length) <;> cases h2 : decide (ns.length ≤ 9) <;> rw [h1, h2] at e <;> first | rfl | exact nomatch e
      rw [e1] at h
      exact h
    · have e1 : isOrd ns = decide (isort ns = upTo ns.length) := by
        unfold isOrd
        cases h1 : decide (1 ≤ ns.length) <;> cases h2 : decide (ns.length ≤ 9) <;> rw [h1, h2] at e <;> first | rfl | exact nomatch e
      rw [e1] at h
      refine sd_ret (EX.is (ex_op (EL.ex (el_cb (eax_cons (ex_var rfl) eax_nil) ?_)) (EL.ex (EL.is (el_rg2 ex_int (ex_op (ex_cb (eax_cons (ex_var rfl) eax_nil) (rcx_lenI hd)) ex_int rx_int) (by omega)) ?_)) (rx_eqD (shaped_lI (isort ns)) (shaped_lI (upTo ns.length)))) ?_) h
      · rcases hd with rfl | rfl
        · exact rcl_sortedAnyT (by omega)
        · exact rcl_sortedAnyL (by omega)
      · rw [show ((ns.length : Int) + 1 - 1).toNat = ns.length by omega]
        exact rngD_upTo _
      · rw [eqv_lI]
  · refine sd_seq (sd_if (b := true) ?_ (fun _ => sd_ret ex_bl h) fun e => nomatch e)
    exact ET.is (et_or (c := true) (et_not (et_B (ex_call (ea_dat (ex_var rfl) ea_nil) ⟨d, rfl, rfl⟩))) fun e => by rw [hs] at e; exact nomatch e) (by rw [hs]; rfl)
def R_want_at_most (ss : List Sl) (P : PyData → Prop) : Prop := ∃ (t : Str) (l n : Int), ss = [.dat (.str t), .dat (.int l), .dat (.int n)] ∧ n ≤ l ∧ P .none
theorem cal_want_at_most (F : C8.Def K mg "want_at_most" swant_at_most f fd) (bd : Binds K fd ["what", "limit", "number"] []) (T : BI mg) : C8.Cal P w K mg base 1 "want_at_most" (spR K R_want_at_most) [] := by
  have sc := scwant_at_most
  refine def_by F bd sc (by decide) (fun ss P h => by obtain ⟨t, l, n, rfl, _⟩ := h; rfl) fun cdv A outer s H E hr => ⟨_, (pss_one (ps_if (pt_cmpR op_gt (pv 2) (pv 1) (nomark _)) (pss_one ps_never) pss_nil)), fun ss Pd h => ?_⟩
  obtain ⟨t, l, n, rfl, hl, h⟩ := h
  refine sd_if (b := false) ?_ (fun e => nomatch e) fun _ => sd_next h
  exact ET.is (et_test (ex_op (ex_var rfl) (ex_var rfl) rx_bl)) (decide_eq_false (by omega))
/-- an order: its tuple -/
def R_want_order (ss : List Sl) (P : PyData → Prop) : Prop := ∃ d ns, ss = [.dat d] ∧ (d = tI ns ∨ d = lI ns) ∧ ns.length ≤ 63 ∧ isOrd ns = true ∧ P (tI ns)
theorem rcx_tupI {ns : List Int} {d : PyData} (h : d = tI ns ∨ d = lI ns) : RCX K (fun xs H Q => ∃ p ys, xs = [.ref p] ∧ ((SqL K H p ys ∧ ∀ l, H l = none → Q (.ref l) (upd H l (.tup ys))) ∨ (SqT K H p ys ∧ Q (.ref p) H))) [d] (tI ns) := by
  rcases h with rfl | rfl
  · exact rcx_tupT
  · exact rcx_tupL
theorem cal_want_order (F : C8.Def K mg "want_order" swant_order f fd) (bd : Binds K fd ["value"] []) (T : BI mg) (c_is_order : C8.Cal P w K mg base 2 "is_order" (spR K R_is_order) []) : C8.Cal P w K mg base 3 "want_order" (spR K R_want_order) [] := by
  have sc := scwant_order
  refine def_by F bd sc (by decide) (fun ss P h => by obtain ⟨d, ns, rfl, _⟩ := h; rfl) fun cdv A outer s H E hr => ⟨_, (pss_cons (ps_if (pt_not (pt_val (C8.pe_c c_is_order hr (by decide) (by rfl) (pa_cons (pv 0) pa_nil)))) (pss_one ps_never) pss_nil) (pss_one (ps_ret (pe_callTy call_tuple_of (by rfl) T.tuple (by decide +kernel) (pa_cons (pv 0) pa_nil))))), fun ss Pd h => ?_⟩
  obtain ⟨d, ns, rfl, hd, h63, ho, h⟩ := h
  refine sd_seq (sd_if (b := false) ?_ (fun e => nomatch e) fun _ => sd_next ?_)
  · exact et_not (b := true) (et_B (ex_call (ea_dat (ex_var rfl) ea_nil) ⟨d, rfl, .inl ⟨ns, hd, h63, by rw [ho]⟩⟩))
  · exact sd_ret (ex_cb (eax_cons (ex_var rfl) eax_nil) (rcx_tupI hd)) h
def R_want_alike (ss : List Sl) (P : PyData → Prop) : Prop := ∃ a b : List Int, ss = [.dat (tI a), .dat (tI b)] ∧ a.length = b.length ∧ P .none
theorem cal_want_alike (F : C8.Def K mg "want_alike" swant_alike f fd) (bd : Binds K fd ["order", "other"] []) (T : BI mg) : C8.Cal P w K mg base 1 "want_alike" (spR K R_want_alike) [] := by
  have sc := scwant_alike
  refine def_by F bd sc (by decide) (fun ss P h => by obtain ⟨a, b, rfl, _⟩ := h; rfl) fun cdv A outer s H E hr => ⟨_, (pss_one (ps_if (pt_cmpR op_ne (pe_callB call_len_seq (by rfl) T.len (by decide +kernel) (pa_cons (pv 0) pa_nil)) (pe_callB call_len_seq (by rfl) T.len (by decide +kernel) (pa_cons (pv 1) pa_nil)) (nomark _)) (pss_one ps_never) pss_nil)), fun ss Pd h => ?_⟩
  obtain ⟨a, b, rfl, hl, h⟩ := h
  refine sd_if (b := false) ?_ (fun e => nomatch e) fun _ => sd_next h
  refine ET.is (et_test (ex_op (ex_cb (eax_cons (ex_var rfl) eax_nil) (rcx_lenI (.inl rfl))) (ex_cb (eax_cons (ex_var rfl) eax_nil) (rcx_lenI (.inl rfl))) rx_neI)) ?_
  rw [hl]
  simp
end
end Kd

/-! The program's below: steps down, is_lower, is_below. -/
namespace Kd
open PySem PySem.Spec PyProof.Rows L2 Evl

/-- two things exchanged -/
def swp (o : List Int) (i j : Nat) : List Int := (o.set i (o.getD j 0)).set j (o.getD i 0)
abbrev pN (p : Nat × Nat) : PyData := .tuple [.int (p.1 : Int), .int (p.2 : Int)]
def hasB (o : List Int) (i j : Nat) (lo hi : Int) : Bool := (((o.take j).drop (i + 1)).map fun t => decide (lo < t) && decide (t < hi)).any id
def isDn (o : List Int) (p : Nat × Nat) : Bool := decide (o.getD p.1 0 > o.getD p.2 0) && !hasB o p.1 p.2 (o.getD p.2 0) (o.getD p.1 0)
def exch (n : Nat) : List (Nat × Nat) := (List.range n).flatMap fun i => (List.range' (i + 1) (n - (i + 1))).map fun j => (i, j)
def stepsM (o : List Int) : List (Nat × Nat) := (exch o.length).filter (isDn o)
/-- the first things put in order, each row below the other's -/
def lowGo : List Int → List Int → List (Int × Int) → Bool
  | _, _, [] => true
  | near, far, p :: ps =>
    let n2 := isort (near ++ [p.1])
    let f2 := isort (far ++ [p.2])
    if ((n2.zip f2).map fun q => decide (q.1 > q.2)).any id then false else lowGo n2 f2 ps
def lowB (v w : List Int) : Bool := lowGo [] [] (v.zip w)
theorem zip_ints : ∀ a b : List Int, (((a.map PyData.int).zip (b.map PyData.int)).map fun p => PyData.tuple [p.1, p.2]) = (a.zip b).map fun q => PyData.tuple [.int q.1, .int q.2]
  | [], _ => rfl
  | _ :: _, [] => rfl
  | x :: a, y :: b => by
    rw [List.map_cons, List.map_cons, List.zip_cons_cons, List.zip_cons_cons, List.map_cons, List.map_cons, zip_ints a b]
theorem exch_lt {n : Nat} {p : Nat × Nat} (h : p ∈ exch n) : p.1 < p.2 ∧ p.2 < n := by
  unfold exch at h
  obtain ⟨i, hi, h⟩ := List.mem_flatMap.mp h
  obtain ⟨j, hj, rfl⟩ := List.mem_map.mp h
  have h1 := List.mem_range.mp hi
  have h2 := List.mem_range'_1.mp hj
  show i < j ∧ j < n
  omega
theorem exch_len (n : Nat) : (exch n).length ≤ n * n := by
  unfold exch
  rw [List.length_flatMap]
  have : ∀ l : List Nat, (l.map fun i => ((List.range' (i + 1) (n - (i + 1))).map fun j => (i, j)).length).sum ≤ l.length * n := fun l => by
    induction l with
    | nil => exact Nat.zero_le _
    | cons a l ih =>
      rw [List.map_cons, List.sum_cons, List.length_cons, Nat.succ_mul, List.length_map, List.length_range']
      omega
  have h := this (List.range n)
  rw [List.length_range] at h
  exact h

section
variable {P : Program} {w : World} {K : PySem.W.Frag} {mg : Str → Option Value} {base : Heap} {f : Addr} {fd : FuncData}
abbrev sdone : Stmt := topS 17
abbrev Ndone : List Str := ["order", "exchange", "first", "second", "found"]
theorem scdone : FnScope Ndone ["order", "exchange"] (C8.fnScope sdone) := C8.fnScope_by (by decide +kernel)
abbrev shas_between : Stmt := topS 18
abbrev Nhas_between : List Str := ["order", "first", "second", "low", "high", "thing"]
theorem schas_between : FnScope Nhas_between ["order", "first", "second", "low", "high"] (C8.fnScope shas_between) := C8.fnScope_by (by decide +kernel)
abbrev sis_step_down : Stmt := topS 19
abbrev Nis_step_down : List Str := ["order", "exchange", "first", "second", "high", "low"]
theorem scis_step_down : FnScope Nis_step_down ["order", "exchange"] (C8.fnScope sis_step_down) := C8.fnScope_by (by decide +kernel)
abbrev sexchanges_of : Stmt := topS 20
abbrev Nexchanges_of : List Str := ["size", "found", "first", "second"]
theorem scexchanges_of : FnScope Nexchanges_of ["size"] (C8.fnScope sexchanges_of) := C8.fnScope_by (by decide +kernel)
abbrev ssteps_down : Stmt := topS 21
abbrev Nsteps_down : List Str := ["order", "exchange"]
theorem scsteps_down : FnScope Nsteps_down ["order"] (C8.fnScope ssteps_down) := C8.fnScope_by (by decide +kernel)
abbrev sis_lower : Stmt := topS 22
abbrev Nis_lower : List Str := ["order", "other", "near", "far", "thing", "against", "one", "two"]
theorem scis_lower : FnScope Nis_lower ["order", "other"] (C8.fnScope sis_lower) := C8.fnScope_by (by decide +kernel)
abbrev swant_two : Stmt := topS 23
abbrev Nwant_two : List Str := ["order", "other", "one", "two"]
theorem scwant_two : FnScope Nwant_two ["order", "other"] (C8.fnScope swant_two) := C8.fnScope_by (by decide +kernel)
abbrev sis_below : Stmt := topS 24
abbrev Nis_below : List Str := ["order", "other", "one", "two"]
theorem scis_below : FnScope Nis_below ["order", "other"] (C8.fnScope sis_below) := C8.fnScope_by (by decide +kernel)
def R_done (ss : List Sl) (P : PyData → Prop) : Prop := ∃ (o : List Int) (i j : Nat), ss = [.dat (tI o), .dat (pN (i, j))] ∧ i < o.length ∧ j < o.length ∧ P (trk ((swp o i j).map PyData.int))
theorem cal_done (F : C8.Def K mg "done" sdone f fd) (bd : Binds K fd ["order", "exchange"] []) (T : BI mg) : C8.Cal P w K mg base 1 "done" (spR K R_done) [] := by
  have sc := scdone
  refine def_by F bd sc (by decide) (fun ss P h => by obtain ⟨o, i, j, rfl, _⟩ := h; rfl) fun cdv A outer s H E hr => ⟨_, (pss_cons (ps_asg (pv 1) (pg_tup rfl (pgs_cons (pg_name (i := 2) sc.nd rfl (.inl rfl)) (pgs_cons (pg_name (i := 3) sc.nd rfl (.inl rfl)) pgs_nil)))) (pss_cons (ps_set (i := 4) sc.nd rfl (.inl rfl) (pe_callTy call_list_of (by rfl) T.list (by decide +kernel) (pa_cons (pv 0) pa_nil))) (pss_cons (ps_asg (pe_tup (pa_cons (pe_ix ix_tup (pv 0) (pv 3) (fun _ _ => rfl)) (pa_cons (pe_ix ix_tup (pv 0) (pv 2) (fun _ _ => rfl)) pa_nil))) (pg_tup rfl (pgs_cons (pg_sub (pv 4) (pv 2) set_list) (pgs_cons (pg_sub (pv 4) (pv 3) set_list) pgs_nil)))) (pss_one (ps_ret (pe_callTy call_tuple_of (by rfl) T.tuple (by decide +kernel) (pa_cons (pv 4) pa_nil))))))), fun ss Pd h => ?_⟩
  obtain ⟨o, i, j, rfl, hi, hj, h⟩ := h
  have lm : (o.map PyData.int).length = o.length := List.length_map _
  refine sd_seq (sd_tgt (ex_var rfl) (gd_tup (gds_cons gd_name (gds_cons gd_name gds_nil)) rfl) ?_)
  refine sd_seq (sd_asg (EL.toS (el_cb (eax_cons (ex_var rfl) eax_nil) rcl_listT)) ?_)
  refine sd_seq (sd_swap (k1 := i) (k2 := j) rfl (ex_op (ex_var rfl) (ex_var rfl) (rx_ixT (atI_int hj))) (ex_op (ex_var rfl) (ex_var rfl) (rx_ixT (atI_int hi))) (ex_var rfl) (ixN_nat (by rw [lm]; exact hi)) (ex_var rfl) (ixN_nat (by rw [lm]; exact hj)) ?_)
  refine sd_freeze 4 rfl (sd_ret (EX.is (ex_cb (eax_cons (ex_var rfl) eax_nil) rcx_tupLt) ?_) h)
  unfold swp
  rw [List.map_set, List.map_set]
def R_has_between (ss : List Sl) (P : PyData → Prop) : Prop := ∃ (o : List Int) (i j : Nat) (lo hi : Int), ss = [.dat (tI o), .dat (.int (i : Int)), .dat (.int (j : Int)), .dat (.int lo), .dat (.int hi)] ∧ o.length ≤ 63 ∧ P (.bool (hasB o i j lo hi))
theorem cal_has_between (F : C8.Def K mg "has_between" shas_between f fd) (bd : Binds K fd ["order", "first", "second", "low", "high"] []) (T : BI mg) : C8.Cal P w K mg base 1 "has_between" (spR K R_has_between) [] := by
  have sc := schas_between
  refine def_by F bd sc (by decide) (fun ss P h => by obtain ⟨o, i, j, lo, hi, rfl, _⟩ := h; rfl) fun cdv A outer s H E hr => ⟨_, (pss_one (ps_ret (pe_callB (cr_any rfl) (by rfl) T.any (by decide +kernel) (pa_cons (pe_lc (own := [("thing", 5)]) rfl sc.nd (pi_tup (pe_slice sl_tupA (pv 0) (po_some (pe_op op_add (pv 1) pe_int)) (po_some (pv 2)))) (blkOk_by (own := [("thing", 5)]) (N := Nhas_between) (sc := C8.fnScope shas_between) (by decide +kernel)) (fun _ _ _ _ _ => (pg_name (i := 5) sc.nd rfl (.inl rfl))) (fun _ _ _ _ _ => pts_nil) (fun _ _ _ _ _ => (pe_chain op_lt op_lt (pv 3) (pv 5) (pv 4)))) pa_nil)))), fun ss Pd h => ?_⟩
  obtain ⟨o, i, j, lo, hi, rfl, h63, h⟩ := h
  refine sd_ret (ex_cb (eax_cons (EL.ex (EL.is (el_lc ((o.take j).drop (i + 1)) PyData.int (fun _ => true) (fun t => .bool (decide (lo < t) && decide (t < hi))) [5] ?_ (fun j h => h) ?_ fun x hx => ⟨_, gd_name, et_yes, fun _ =>
    ex_chain (ex_var rfl) (ex_var rfl) (ex_var rfl) rx_bl rx_bl⟩) (show _ = (((o.take j).drop (i + 1)).map fun t => decide (lo < t) && decide (t < hi)).map PyData.bool from ?_))) eax_nil) rcx_any) h
  · refine IW.is (iw_tup (ex_slI (ex_var rfl) (eo_some (ex_op (ex_var rfl) ex_int rx_int)) (eo_some (ex_var rfl)))) ?_
    rw [show ((i : Int) + 1) = ((i + 1 : Nat) : Int) by omega, cutI_both]
  · rw [List.length_drop, List.length_take]; omega
  · rw [List.filter_eq_self.mpr fun _ _ => rfl, List.map_map]
    rfl
def R_is_step_down (ss : List Sl) (P : PyData → Prop) : Prop := ∃ (o : List Int) (p : Nat × Nat), ss = [.dat (tI o), .dat (pN p)] ∧ o.length ≤ 63 ∧ p.1 < o.length ∧ p.2 < o.length ∧ P (.bool (isDn o p))
theorem cal_is_step_down (F : C8.Def K mg "is_step_down" sis_step_down f fd) (bd : Binds K fd ["order", "exchange"] []) (T : BI mg) (c_has_between : C8.Cal P w K mg base 1 "has_between" (spR K R_has_between) []) : C8.Cal P w K mg base 2 "is_step_down" (spR K R_is_step_down) [] := by
  have sc := scis_step_down
  refine def_by F bd sc (by decide) (fun ss P h => by obtain ⟨o, p, rfl, _⟩ := h; rfl) fun cdv A outer s H E hr => ⟨_, (pss_cons (ps_asg (pv 1) (pg_tup rfl (pgs_cons (pg_name (i := 2) sc.nd rfl (.inl rfl)) (pgs_cons (pg_name (i := 3) sc.nd rfl (.inl rfl)) pgs_nil)))) (pss_cons (ps_par (i := 4) (j := 5) rfl sc.nd rfl rfl (by decide) rfl rfl (pa_cons (pe_ix ix_tup (pv 0) (pv 2) (fun _ _ => rfl)) (pa_cons (pe_ix ix_tup (pv 0) (pv 3) (fun _ _ => rfl)) pa_nil)) (by rfl)) (pss_one (ps_ret (pe_and (pe_cmpR op_gt (pv 4) (pv 5) (nomark _)) (pe_one (pe_not (C8.pe_c c_has_between hr (by decide) (by rfl) (pa_cons (pv 0) (pa_cons (pv 2) (pa_cons (pv 3) (pa_cons (pv 5) (pa_cons (pv 4) pa_nil))))))))))))), fun ss Pd h => ?_⟩
  obtain ⟨o, p, rfl, h63, hi, hj, h⟩ := h
  refine sd_seq (sd_tgt (ex_var rfl) (gd_tup (gds_cons gd_name (gds_cons gd_name gds_nil)) rfl) ?_)
  refine sd_seq (sd_par (EX.toS (ex_op (ex_var rfl) (ex_var rfl) (rx_ixT (atI_int hi)))) (EX.toS (ex_op (ex_var rfl) (ex_var rfl) (rx_ixT (atI_int hj)))) ?_)
  refine sd_ret (ex_andV (ex_op (ex_var rfl) (ex_var rfl) rx_bl) fun _ => ex_notV (ex_call (ea_dat (ex_var rfl) (ea_dat (ex_var rfl) (ea_dat (ex_var rfl) (ea_dat (ex_var rfl) (ea_dat (ex_var rfl) ea_nil))))) ⟨o, p.1, p.2, _, _, rfl, h63, rfl⟩)) h
def R_exchanges_of (ss : List Sl) (P : PyData → Prop) : Prop := ∃ n : Nat, ss = [.dat (.int (n : Int))] ∧ n ≤ 63 ∧ P (.list ((exch n).map pN))
theorem cal_exchanges_of (F : C8.Def K mg "exchanges_of" sexchanges_of f fd) (bd : Binds K fd ["size"] []) (T : BI mg) : C8.Cal P w K mg base 1 "exchanges_of" (spR K R_exchanges_of) [] := by
  have sc := scexchanges_of
  refine def_by F bd sc (by decide) (fun ss P h => by obtain ⟨n, rfl, _⟩ := h; rfl) fun cdv A outer s H E hr => ⟨_, (pss_cons (ps_set (i := 1) sc.nd rfl (.inl rfl) (pe_lst pa_nil)) (pss_cons (ps_for PassesOwn.never rfl (pi_range1 (by rfl) T.range (pa_cons (pv 0) pa_nil)) (pg_name (i := 2) sc.nd rfl (.inr rfl)) (pss_one (ps_expr (pe_bm PySem.F.plainAttrs_list PySem.F.slot_list_extend PySem.F.type_list_extend mt_extend (pv 1) (pa_cons (pe_lc (own := [("second", 3)]) rfl sc.nd (pi_range2 (by rfl) T.range (pa_cons (pe_op op_add (pv 2) pe_int) (pa_cons (pv 0) pa_nil))) (blkOk_by (own := [("second", 3)]) (N := Nexchanges_of) (sc := C8.fnScope sexchanges_of) (by decide +kernel)) (fun _ _ _ _ _ => (pg_name (i := 3) sc.nd rfl (.inl rfl))) (fun _ _ _ _ _ => pts_nil) (fun _ _ _ _ _ => (pe_tup (pa_cons (pv 2) (pa_cons (pv 3) pa_nil))))) pa_nil))))) (pss_one (ps_ret (pv 1))))), fun ss Pd h => ?_⟩
  obtain ⟨n, rfl, h63, h⟩ := h
  have hp : ∀ i : Nat, ((List.range i).flatMap fun i => (List.range' (i + 1) (n - (i + 1))).map fun j => (i, j)).length ≤ i * 63 := fun i => by
    induction i with
    | zero => exact Nat.zero_le _
    | succ i ih =>
      rw [List.range_succ, List.flatMap_append, List.length_append, List.flatMap_cons, List.flatMap_nil, List.append_nil, List.length_map, List.length_range']
      omega
  refine sd_seq (sd_asg (EL.toS (el_lst eax_nil (by decide))) ?_)
  refine sd_seq (sd_forN 0 n (fun i ρ' => ∃ s2 s3, ρ' = [.dat (.int (n : Int)), .own (((List.range i).flatMap fun i => (List.range' (i + 1) (n - (i + 1))).map fun j => (i, j)).map pN), s2, s3]) (iw_rn1 (ex_var rfl) (by omega)) ⟨_, _, rfl⟩ ?_ ?_)
  · rintro i ρ' hi ⟨s2, s3, rfl⟩
    rw [Nat.zero_add]
    refine ⟨_, _, gd_name, ?_⟩
    refine sd_extend (es := ((List.range' (i + 1) (n - (i + 1))).map fun j => (i, j)).map pN) rfl ?_ ?_ ?_
    · refine EL.is (el_lc (List.range' (i + 1) (n - (i + 1))) (fun k : Nat => .int (k : Int)) (fun _ => true) (fun j => pN (i, j)) [3] (iw_rn2 (a := i + 1) (ex_op (ex_var rfl) ex_int rx_int) (ex_var rfl) (by omega)) (fun j h => h) ?_ fun x hx => ⟨_, gd_name, et_yes, fun _ => ex_tup (eax_cons (ex_var rfl) (eax_cons (ex_var rfl) eax_nil)) (by show 2 ≤ 100000; decide)⟩) ?_
      · rw [List.length_range']; omega
      · rw [List.filter_eq_self.mpr fun _ _ => rfl, List.map_map]
        rfl
    · rw [List.length_map, List.length_map, List.length_map, List.length_range']
      have := hp i
      omega
    · refine ⟨.dat (.int (i : Int)), s3, ?_⟩
      rw [List.range_succ, List.flatMap_append, List.map_append, List.flatMap_cons, List.flatMap_nil, List.append_nil]
      rfl
  · rintro ρ' ⟨s2, s3, rfl⟩
    exact sd_freeze 1 rfl (sd_ret (ex_var rfl) h)
def R_steps_down (ss : List Sl) (P : PyData → Prop) : Prop := ∃ o : List Int, ss = [.dat (tI o)] ∧ o.length ≤ 63 ∧ P (.list ((stepsM o).map pN))
theorem cal_steps_down (F : C8.Def K mg "steps_down" ssteps_down f fd) (bd : Binds K fd ["order"] []) (T : BI mg) (c_exchanges_of : C8.Cal P w K mg base 1 "exchanges_of" (spR K R_exchanges_of) []) (c_is_step_down : C8.Cal P w K mg base 2 "is_step_down" (spR K R_is_step_down) []) : C8.Cal P w K mg base 3 "steps_down" (spR K R_steps_down) [] := by
  have sc := scsteps_down
  refine def_by F bd sc (by decide) (fun ss P h => by obtain ⟨n, rfl, _⟩ := h; rfl) fun cdv A outer s H E hr => ⟨_, (pss_one (ps_ret (pe_lc (own := [("exchange", 1)]) rfl sc.nd (pi_list (C8.pe_c c_exchanges_of hr (by decide) (by rfl) (pa_cons (pe_callB call_len_seq (by rfl) T.len (by decide +kernel) (pa_cons (pv 0) pa_nil)) pa_nil))) (blkOk_by (own := [("exchange", 1)]) (N := Nsteps_down) (sc := C8.fnScope ssteps_down) (by decide +kernel)) (fun _ _ _ _ _ => (pg_name (i := 1) sc.nd rfl (.inl rfl))) (fun _ _ _ _ _ => (pts_one (pt_val (C8.pe_c c_is_step_down hr (by decide) (by rfl) (pa_cons (pv 0) (pa_cons (pv 1) pa_nil)))))) (fun _ _ _ _ _ => (pv 1))))), fun ss Pd h => ?_⟩
  obtain ⟨o, rfl, h63, h⟩ := h
  refine sd_ret (EL.ex (el_lc (exch o.length) pN (isDn o) pN [1] (iw_list (ex_call (ea_dat (ex_cb (eax_cons (ex_var rfl) eax_nil) (rcx_lenI (.inl rfl))) ea_nil) ⟨o.length, rfl, h63, rfl⟩)) (fun j h => h) ?_ fun x hx => ⟨_, gd_name, et_B (ex_call (ea_dat (ex_var rfl) (ea_dat (ex_var rfl) ea_nil)) ⟨o, x, rfl, h63, ?_, ?_, rfl⟩), fun _ => ex_var rfl⟩)) h
  · have := exch_len o.length
    have : o.length * o.length ≤ 63 * 63 := Nat.mul_le_mul h63 h63
    omega
  · have := exch_lt hx
    omega
  · have := exch_lt hx
    omega
def R_is_lower (ss : List Sl) (P : PyData → Prop) : Prop := ∃ v w : List Int, ss = [.dat (tI v), .dat (tI w)] ∧ v.length ≤ 62 ∧ P (.bool (lowB v w))
theorem ins_len (x : Int) (l : List Int) : (ins x l).length = l.length + 1 := (ins_perm x l).length_eq
theorem isort_len (l : List Int) : (isort l).length = l.length := (isort_perm l).length_eq
theorem cal_is_lower (F : C8.Def K mg "is_lower" sis_lower f fd) (bd : Binds K fd ["order", "other"] []) (T : BI mg) : C8.Cal P w K mg base 1 "is_lower" (spR K R_is_lower) [] := by
  have sc := scis_lower
  refine def_by F bd sc (by decide) (fun ss P h => by obtain ⟨o, p, rfl, _⟩ := h; rfl) fun cdv A outer s H E hr => ⟨_, (pss_cons (ps_par (i := 2) (j := 3) rfl sc.nd rfl rfl (by decide) rfl rfl (pa_cons (pe_lst pa_nil) (pa_cons (pe_lst pa_nil) pa_nil)) (by rfl)) (pss_cons (ps_for PassesOwn.never rfl (RZ.pi_zipA (by rfl) T.zip (pa_cons (pv 0) (pa_cons (pv 1) pa_nil))) (pg_tup rfl (pgs_cons (pg_name (i := 4) sc.nd rfl (.inl rfl)) (pgs_cons (pg_name (i := 5) sc.nd rfl (.inl rfl)) pgs_nil))) (pss_cons (ps_par (i := 2) (j := 3) rfl sc.nd rfl rfl (by decide) rfl rfl (pa_cons (pe_callB cr_sorted (by rfl) T.sorted (by decide +kernel) (pa_cons (pe_op op_cat (pv 2) (pe_lst (pa_cons (pv 4) pa_nil))) pa_nil)) (pa_cons (pe_callB cr_sorted (by rfl) T.sorted (by decide +kernel) (pa_cons (pe_op op_cat (pv 3) (pe_lst (pa_cons (pv 5) pa_nil))) pa_nil)) pa_nil)) (by rfl)) (pss_one (ps_if (pt_val (pe_callB (cr_any rfl) (by rfl) T.any (by decide +kernel) (pa_cons (pe_lc (own := [("one", 6), ("two", 7)]) rfl sc.nd (pi_zip (by rfl) T.zip (pa_cons (pv 2) (pa_cons (pv 3) pa_nil))) (blkOk_by (own := [("one", 6), ("two", 7)]) (N := Nis_lower) (sc := C8.fnScope sis_lower) (by decide +kernel)) (fun _ _ _ _ _ => (pg_tupK (K := K) (n := 2) rfl rfl (pgs_cons (pg_name (i := 6) sc.nd rfl (.inl rfl) (.inr rfl)) (pgs_cons (pg_name (i := 7) sc.nd rfl (.inl rfl) (.inr rfl)) pgs_nil)))) (fun _ _ _ _ _ => pts_nil) (fun _ _ _ _ _ => (pe_cmpR op_gt (pv 6) (pv 7) (nomark _)))) pa_nil))) (pss_one (ps_ret pe_bl)) pss_nil)))) (pss_one (ps_ret pe_bl)))), fun ss Pd h => ?_⟩
  obtain ⟨v, w, rfl, h62, h⟩ := h
  refine sd_seq (sd_par (EX.toS (EL.ex (el_lst eax_nil (by decide)))) (EX.toS (EL.ex (el_lst eax_nil (by decide)))) ?_)
  refine sd_seq (sd_forX (v.zip w) (fun p => .tuple [.int p.1, .int p.2]) (fun i ρ' => ∃ near far s4 s5 s6 s7, near.length ≤ i ∧ far.length ≤ i ∧ ρ' = [.dat (tI v), .dat (tI w), .dat (lI near), .dat (lI far), s4, s5, s6, s7] ∧ lowGo near far ((v.zip w).drop i) = lowB v w) (IW.is (iw_zipT (eax_cons (ex_var rfl) (eax_cons (ex_var rfl) eax_nil))) (zip_ints v w)) ⟨[], [], .no, .no, .no, .no, Nat.le_refl _, Nat.le_refl _, rfl, rfl⟩ ?_ ?_)
  · rintro i p ρ' hp hlt ⟨near, far, s4, s5, s6, s7, hn, hf, rfl, hg⟩
    have hl : i < 62 := by
      rw [List.length_zip] at hlt
      omega
    rw [List.drop_eq_getElem_cons hlt, show (v.zip w)[i] = p from Option.some.inj ((List.getElem?_eq_getElem hlt).symm.trans hp)] at hg
    refine ⟨_, _, gd_tup (gds_cons gd_name (gds_cons gd_name gds_nil)) rfl, ?_⟩
    have en : ∀ (l : List Int) (x : Int), l.map PyData.int ++ [.int x] = (l ++ [x]).map PyData.int := fun l x => by rw [List.map_append]; rfl
    refine sd_seq (sd_par (EX.toS (EL.ex (el_cb (eax_cons (EL.ex (EL.is (el_op (ex_var rfl) (EL.ex (el_lst (eax_cons (ex_var rfl) eax_nil) (by show 1 ≤ 100000; decide))) (rxl_cat ?_)) (en near p.1))) eax_nil) (rcl_sorted ?_))))
      (EX.toS (EL.ex (el_cb (eax_cons (EL.ex (EL.is (el_op (ex_var rfl) (EL.ex (el_lst (eax_cons (ex_var rfl) eax_nil) (by show 1 ≤ 100000; decide))) (rxl_cat ?_)) (en far p.2))) eax_nil) (rcl_sorted ?_)))) ?_)
    · rw [List.length_map, List.length_singleton]; omega
    · rw [List.length_append, List.length_singleton]; omega
    · rw [List.length_map, List.length_singleton]; omega
    · rw [List.length_append, List.length_singleton]; omega
    have hn2 : (isort (near ++ [p.1])).length ≤ i + 1 := by rw [isort_len, List.length_append, List.length_singleton]; omega
    have hf2 : (isort (far ++ [p.2])).length ≤ i + 1 := by rw [isort_len, List.length_append, List.length_singleton]; omega
    refine sd_if (b := (((isort (near ++ [p.1])).zip (isort (far ++ [p.2]))).map fun q => decide (q.1 > q.2)).any id) ?_ (fun e => ?_) fun e => sd_next ?_
    · refine et_B (ex_cb (eax_cons (EL.ex (EL.is (el_lc ((isort (near ++ [p.1])).zip (isort (far ++ [p.2]))) (fun q => .tuple [.int q.1, .int q.2]) (fun _ => true) (fun q => .bool (decide (q.1 > q.2))) [6, 7] (IW.is (iw_zip (eax_cons (ex_var rfl) (eax_cons (ex_var rfl) eax_nil))) (zip_ints _ _)) (fun j h => h) ?_ fun q hq => ⟨_, gd_tup (gds_cons gd_name (gds_cons gd_name gds_nil)) rfl, et_yes, fun _ => ex_op (ex_var rfl) (ex_var rfl) rx_bl⟩) (show _ = (((isort (near ++ [p.1])).zip (isort (far ++ [p.2]))).map fun q => decide (q.1 > q.2)).map PyData.bool from ?_))) eax_nil) rcx_any)
      · rw [List.length_zip]; omega
      · rw [List.filter_eq_self.mpr fun _ _ => rfl, List.map_map]
        rfl
    · refine sd_ret ex_bl ?_
      rw [← hg] at h
      unfold lowGo at h
      simp only [e, if_true] at h
      exact h
    · refine ⟨_, _, .dat (.int p.1), .dat (.int p.2), s6, s7, hn2, hf2, rfl, ?_⟩
      rw [← hg]
      conv => rhs; unfold lowGo
      simp only [e, if_false, Bool.false_eq_true]
  · rintro ρ' ⟨near, far, s4, s5, s6, s7, hn, hf, rfl, hg⟩
    rw [List.drop_length] at hg
    rw [← hg] at h
    exact sd_ret ex_bl h
/-- two orders of as many things -/
def R_want_two (ss : List Sl) (P : PyData → Prop) : Prop := ∃ d e v w, ss = [.dat d, .dat e] ∧ (d = tI v ∨ d = lI v) ∧ (e = tI w ∨ e = lI w) ∧ v.length ≤ 63 ∧ w.length ≤ 63 ∧ isOrd v = true ∧ isOrd w = true ∧ v.length = w.length ∧ P (.tuple [tI v, tI w])
theorem cal_want_two (F : C8.Def K mg "want_two" swant_two f fd) (bd : Binds K fd ["order", "other"] []) (T : BI mg) (c_want_order : C8.Cal P w K mg base 3 "want_order" (spR K R_want_order) []) (c_want_alike : C8.Cal P w K mg base 1 "want_alike" (spR K R_want_alike) []) : C8.Cal P w K mg base 4 "want_two" (spR K R_want_two) [] := by
  have sc := scwant_two
  refine def_by F bd sc (by decide) (fun ss P h => by obtain ⟨o, p, _, _, rfl, _⟩ := h; rfl) fun cdv A outer s H E hr => ⟨_, (pss_cons (ps_par (i := 2) (j := 3) rfl sc.nd rfl rfl (by decide) rfl rfl (pa_cons (C8.pe_c c_want_order hr (by decide) (by rfl) (pa_cons (pv 0) pa_nil)) (pa_cons (C8.pe_c c_want_order hr (by decide) (by rfl) (pa_cons (pv 1) pa_nil)) pa_nil)) (by rfl)) (pss_cons (ps_expr (C8.pe_c c_want_alike hr (by decide) (by rfl) (pa_cons (pv 2) (pa_cons (pv 3) pa_nil)))) (pss_one (ps_ret (pe_tup (pa_cons (pv 2) (pa_cons (pv 3) pa_nil))))))), fun ss Pd h => ?_⟩
  obtain ⟨d, e, v, w, rfl, hd, he, h1, h2, o1, o2, hl, h⟩ := h
  refine sd_seq (sd_par (EX.toS (ex_call (ea_dat (ex_var rfl) ea_nil) ⟨d, v, rfl, hd, h1, o1, rfl⟩)) (EX.toS (ex_call (ea_dat (ex_var rfl) ea_nil) ⟨e, w, rfl, he, h2, o2, rfl⟩)) ?_)
  refine sd_seq (sd_drop (ex_call (ea_dat (ex_var rfl) (ea_dat (ex_var rfl) ea_nil)) ⟨v, w, rfl, hl, rfl⟩) ?_)
  exact sd_ret (ex_tup (eax_cons (ex_var rfl) (eax_cons (ex_var rfl) eax_nil)) (by show 2 ≤ 100000; decide)) h
def R_is_below (ss : List Sl) (P : PyData → Prop) : Prop := ∃ d e v w, ss = [.dat d, .dat e] ∧ (d = tI v ∨ d = lI v) ∧ (e = tI w ∨ e = lI w) ∧ v.length ≤ 62 ∧ isOrd v = true ∧ isOrd w = true ∧ v.length = w.length ∧ P (.bool (lowB v w))
theorem cal_is_below (F : C8.Def K mg "is_below" sis_below f fd) (bd : Binds K fd ["order", "other"] []) (T : BI mg) (c_want_two : C8.Cal P w K mg base 4 "want_two" (spR K R_want_two) []) (c_is_lower : C8.Cal P w K mg base 1 "is_lower" (spR K R_is_lower) []) : C8.Cal P w K mg base 5 "is_below" (spR K R_is_below) [] := by
  have sc := scis_below
  refine def_by F bd sc (by decide) (fun ss P h => by obtain ⟨o, p, _, _, rfl, _⟩ := h; rfl) fun cdv A outer s H E hr => ⟨_, (pss_cons (ps_asg (C8.pe_c c_want_two hr (by decide) (by rfl) (pa_cons (pv 0) (pa_cons (pv 1) pa_nil))) (pg_tup rfl (pgs_cons (pg_name (i := 2) sc.nd rfl (.inl rfl)) (pgs_cons (pg_name (i := 3) sc.nd rfl (.inl rfl)) pgs_nil)))) (pss_one (ps_ret (C8.pe_c c_is_lower hr (by decide) (by rfl) (pa_cons (pv 2) (pa_cons (pv 3) pa_nil)))))), fun ss Pd h => ?_⟩
  obtain ⟨d, e, v, w, rfl, hd, he, h1, o1, o2, hl, h⟩ := h
  refine sd_seq (sd_tgt (ex_call (ea_dat (ex_var rfl) (ea_dat (ex_var rfl) ea_nil)) ⟨d, e, v, w, rfl, hd, he, by omega, by omega, o1, o2, hl, rfl⟩) (gd_tup (gds_cons gd_name (gds_cons gd_name gds_nil)) rfl) ?_)
  exact sd_ret (ex_call (ea_dat (ex_var rfl) (ea_dat (ex_var rfl) ea_nil)) ⟨v, w, rfl, h1, rfl⟩) h
end
end Kd

/-! The program's boards. -/
namespace Kd
open PySem PySem.Spec PyProof.Rows L2 Evl

abbrev pI (p : Int × Int) : PyData := .tuple [.int p.1, .int p.2]
abbrev lP (ps : List (Int × Int)) : PyData := .list (ps.map pI)
def strB (p : Int × Int) (place many : Int) : Bool := decide ((1 : Int) ≤ p.1) && (decide (p.1 ≤ place + 1) && (decide (place + 1 ≤ p.2) && decide (p.2 ≤ many)))
def brdB (ps : List (Int × Int)) : Bool := decide (1 ≤ ps.length) && (decide (ps.length ≤ 9) && (((ps.mapIdx fun i p => strB p (i : Int) (ps.length : Int)).all id) && (((ps.zip (ps.drop 1)).map fun q => decide (q.1.1 ≤ q.2.1) && decide (q.1.2 ≤ q.2.2)).all id)))
def hiGo : List Int → List Int → List Int
  | acc, [] => acc
  | acc, t :: ts => hiGo (acc ++ [match acc.getLast? with | none => t | some y => if y > t then y else t]) ts
def loGo : List Int → List Int → List Int
  | acc, [] => acc
  | acc, t :: ts => loGo (acc ++ [match acc.getLast? with | none => t | some y => if y < t then y else t]) ts
def boardM (o : List Int) : List (Int × Int) := (loGo [] o.reverse).reverse.zip (hiGo [] o)
def laysB (ps : List (Int × Int)) (v : List Int) : Bool := ((ps.zip v).map fun q => decide (q.1.1 ≤ q.2) && decide (q.2 ≤ q.1.2)).all id
theorem hiGo_len : ∀ (ts acc : List Int), (hiGo acc ts).length = acc.length + ts.length
  | [], acc => rfl
  | t :: ts, acc => by
    unfold hiGo
    rw [hiGo_len ts, List.length_append, List.length_cons, List.length_cons, List.length_nil]
    omega
theorem loGo_len : ∀ (ts acc : List Int), (loGo acc ts).length = acc.length + ts.length
  | [], acc => rfl
  | t :: ts, acc => by
    unfold loGo
    rw [loGo_len ts, List.length_append, List.length_cons, List.length_cons, List.length_nil]
    omega
theorem zip_tups {α β : Type} (f : α → PyData) (g : β → PyData) : ∀ (a : List α) (b : List β), (((a.map f).zip (b.map g)).map fun p => PyData.tuple [p.1, p.2]) = (a.zip b).map fun q => PyData.tuple [f q.1, g q.2]
  | [], _ => rfl
  | _ :: _, [] => rfl
  | x :: a, y :: b => by
    rw [List.map_cons, List.map_cons, List.zip_cons_cons, List.zip_cons_cons, List.map_cons, List.map_cons, zip_tups f g a b]

section
variable {P : Program} {w : World} {K : PySem.W.Frag} {mg : Str → Option Value} {base : Heap} {f : Addr} {fd : FuncData}
abbrev sis_stretch : Stmt := topS 27
abbrev Nis_stretch : List Str := ["value", "place", "many"]
theorem scis_stretch : FnScope Nis_stretch ["value", "place", "many"] (C8.fnScope sis_stretch) := C8.fnScope_by (by decide +kernel)
abbrev sis_board : Stmt := topS 28
abbrev Nis_board : List Str := ["value", "pairs", "place", "stretch", "one", "other"]
theorem scis_board : FnScope Nis_board ["value"] (C8.fnScope sis_board) := C8.fnScope_by (by decide +kernel)
abbrev swant_board : Stmt := topS 29
abbrev Nwant_board : List Str := ["value"]
theorem scwant_board : FnScope Nwant_board ["value"] (C8.fnScope swant_board) := C8.fnScope_by (by decide +kernel)
abbrev sboard_in : Stmt := topS 30
abbrev Nboard_in : List Str := ["order", "highs", "lows", "thing"]
theorem scboard_in : FnScope Nboard_in ["order"] (C8.fnScope sboard_in) := C8.fnScope_by (by decide +kernel)
abbrev sboard_of : Stmt := topS 31
abbrev Nboard_of : List Str := ["order"]
theorem scboard_of : FnScope Nboard_of ["order"] (C8.fnScope sboard_of) := C8.fnScope_by (by decide +kernel)
abbrev slays : Stmt := topS 32
abbrev Nlays : List Str := ["board", "order", "low", "high", "thing"]
theorem sclays : FnScope Nlays ["board", "order"] (C8.fnScope slays) := C8.fnScope_by (by decide +kernel)
abbrev sis_laying : Stmt := topS 33
abbrev Nis_laying : List Str := ["board", "order", "stretches", "things"]
theorem scis_laying : FnScope Nis_laying ["board", "order"] (C8.fnScope sis_laying) := C8.fnScope_by (by decide +kernel)
def R_is_stretch (ss : List Sl) (P : PyData → Prop) : Prop := ∃ (p : Int × Int) (place many : Int), ss = [.dat (pI p), .dat (.int place), .dat (.int many)] ∧ P (.bool (strB p place many))
theorem cal_is_stretch (F : C8.Def K mg "is_stretch" sis_stretch f fd) (bd : Binds K fd ["value", "place", "many"] []) (T : BI mg) (c_is_integer : C8.Cal P w K mg base 1 "is_integer" (spR K R_is_integer) []) : C8.Cal P w K mg base 2 "is_stretch" (spR K R_is_stretch) [] := by
  have sc := scis_stretch
  refine def_by F bd sc (by decide) (fun ss P h => by obtain ⟨p, l, n, rfl, _⟩ := h; rfl) fun cdv A outer s H E hr => ⟨_, (pss_cons (ps_if (PW.pt (pw_or (pt_not (pt_val (pe_callB call_isi (by rfl) T.isinstance (by decide +kernel) (pa_cons (pv 0) (pa_cons (pe_bltn (v := .ty "tuple") (u := .type "tuple") (by rfl) T.tuple (by decide +kernel) rfl) pa_nil))))) (pw_or (pt_cmpR op_ne (pe_callB call_len_seq (by rfl) T.len (by decide +kernel) (pa_cons (pv 0) pa_nil)) pe_int (nomark _)) (pw_or (pt_not (pt_val (C8.pe_c c_is_integer hr (by decide) (by rfl) (pa_cons (pe_ix ix_tup (pv 0) pe_int (fun _ _ => rfl)) pa_nil)))) (pw_or1 (pt_not (pt_val (C8.pe_c c_is_integer hr (by decide) (by rfl) (pa_cons (pe_ix ix_tup (pv 0) pe_int (fun _ _ => rfl)) pa_nil))))))))) (pss_one (ps_ret pe_bl)) pss_nil) (pss_one (ps_ret (pe_chain4 op_le op_le op_le op_le pe_int (pe_ix ix_tup (pv 0) pe_int (fun _ _ => rfl)) (pe_op op_add (pv 1) pe_int) (pe_ix ix_tup (pv 0) pe_int (fun _ _ => rfl)) (pv 2))))), fun ss Pd h => ?_⟩
  obtain ⟨p, place, many, rfl, h⟩ := h
  have i0 : atI [PyData.int p.1, PyData.int p.2] 0 = some (.int p.1) := rfl
  have i1 : atI [PyData.int p.1, PyData.int p.2] 1 = some (.int p.2) := rfl
  refine sd_seq (sd_if (b := false) ?_ (fun e => nomatch e) fun _ => sd_next ?_)
  · refine ET.is (et_or (et_not (et_B (ex_isi (ex_var rfl) (kit_T _)))) fun _ => et_or (et_test (ex_op (ex_cb (eax_cons (ex_var rfl) eax_nil) rcx_lenT) ex_int rx_neI)) fun _ => et_or (et_not (et_B (ex_call (ea_dat (ex_op (ex_var rfl) ex_int (rx_ixT i0)) ea_nil) ⟨_, rfl, rfl⟩))) fun _ => et_not (et_B (ex_call (ea_dat (ex_op (ex_var rfl) ex_int (rx_ixT i1)) ea_nil) ⟨_, rfl, rfl⟩))) ?_
    rfl
  · exact sd_ret (ex_chain4 ex_int (ex_op (ex_var rfl) ex_int (rx_ixT i0)) (ex_op (ex_var rfl) ex_int rx_int) (ex_op (ex_var rfl) ex_int (rx_ixT i1)) (ex_var rfl) rx_bl rx_bl rx_bl rx_bl) h
def R_is_board (ss : List Sl) (P : PyData → Prop) : Prop := ∃ ps : List (Int × Int), ss = [.dat (lP ps)] ∧ ps.length ≤ 63 ∧ P (.bool (brdB ps))
theorem cal_is_board (F : C8.Def K mg "is_board" sis_board f fd) (bd : Binds K fd ["value"] []) (T : BI mg) (g_MOST_PLACES : ∃ u, mg "MOST_PLACES" = some u ∧ RelV (.int 9) u)
    (c_is_list : C8.Cal P w K mg base 1 "is_list" (spR K R_is_list) []) (c_is_stretch : C8.Cal P w K mg base 2 "is_stretch" (spR K R_is_stretch) []) : C8.Cal P w K mg base 3 "is_board" (spR K R_is_board) [] := by
  have sc := scis_board
  refine def_by F bd sc (by decide) (fun ss P h => by obtain ⟨p, rfl, _⟩ := h; rfl) fun cdv A outer s H E hr => ⟨_, (pss_cons (ps_if (PW.pt (pw_or (pt_not (pt_val (C8.pe_c c_is_list hr (by decide) (by rfl) (pa_cons (pv 0) pa_nil)))) (pw_or1 (pt_not (pt_chain op_le op_le pe_int (pe_callB call_len_seq (by rfl) T.len (by decide +kernel) (pa_cons (pv 0) pa_nil)) (C8.pe_gc rfl g_MOST_PLACES)))))) (pss_one (ps_ret pe_bl)) pss_nil) (pss_cons (ps_if (pt_not (pt_val (pe_callB (cr_all rfl) (by rfl) T.all (by decide +kernel) (pa_cons (pe_lc (own := [("place", 2), ("stretch", 3)]) rfl sc.nd (pi_enum (by rfl) T.enumerate (pa_cons (pv 0) pa_nil)) (blkOk_by (own := [("place", 2), ("stretch", 3)]) (N := Nis_board) (sc := C8.fnScope sis_board) (by decide +kernel)) (fun _ _ _ _ _ => (pg_tupK (K := K) (n := 2) rfl rfl (pgs_cons (pg_name (i := 2) sc.nd rfl (.inl rfl) (.inr rfl)) (pgs_cons (pg_name (i := 3) sc.nd rfl (.inl rfl) (.inr rfl)) pgs_nil)))) (fun _ _ _ _ _ => pts_nil) (fun _ _ _ _ _ => (C8.pe_c c_is_stretch hr (by decide) (by rfl) (pa_cons (pv 3) (pa_cons (pv 2) (pa_cons (pe_callB (call_len_seqK (K := K) rfl) (by rfl) T.len (by decide +kernel) (pa_cons (pv 0) pa_nil)) pa_nil)))))) pa_nil)))) (pss_one (ps_ret pe_bl)) pss_nil) (pss_cons (ps_set (i := 1) sc.nd rfl (.inl rfl) (pe_zipV (by rfl) T.zip (pa_cons (pv 0) (pa_cons (pe_slice sl_list (pv 0) (po_some pe_int) po_none) pa_nil)))) (pss_one (ps_ret (pe_callB (cr_all rfl) (by rfl) T.all (by decide +kernel) (pa_cons (pe_lc (own := [("one", 4), ("other", 5)]) rfl sc.nd (pi_zipV (k := 1) rfl (.inl rfl)) (blkOk_by (own := [("one", 4), ("other", 5)]) (N := Nis_board) (sc := C8.fnScope sis_board) (by decide +kernel)) (fun _ _ _ _ _ => (pg_tupK (K := K) (n := 2) rfl rfl (pgs_cons (pg_name (i := 4) sc.nd rfl (.inl rfl) (.inr rfl)) (pgs_cons (pg_name (i := 5) sc.nd rfl (.inl rfl) (.inr rfl)) pgs_nil)))) (fun _ _ _ _ _ => pts_nil) (fun _ _ _ _ _ => (pe_and (pe_cmpR op_le (pe_ix (ix_tupK (K := K) rfl) (pv 4) pe_int (fun _ _ => rfl)) (pe_ix (ix_tupK (K := K) rfl) (pv 5) pe_int (fun _ _ => rfl)) (nomark _)) (pe_one (pe_cmpR op_le (pe_ix (ix_tupK (K := K) rfl) (pv 4) pe_int (fun _ _ => rfl)) (pe_ix (ix_tupK (K := K) rfl) (pv 5) pe_int (fun _ _ => rfl)) (nomark _)))))) pa_nil))))))), fun ss Pd h => ?_⟩
  obtain ⟨ps, rfl, h63, h⟩ := h
  have el : (((ps.map pI).length : Nat) : Int) = (ps.length : Int) := by rw [List.length_map]
  have e2 : decide ((1 : Int) ≤ (ps.length : Int)) = decide (1 ≤ ps.length) := decide_eq_decide.mpr (by omega)
  have e3 : decide ((ps.length : Int) ≤ 9) = decide (ps.length ≤ 9) := decide_eq_decide.mpr (by omega)
  refine sd_seq (sd_if (b := !(decide (1 ≤ ps.length) && decide (ps.length ≤ 9))) ?_ (fun e => sd_ret ex_bl ?_) fun e => sd_next ?_)
  · refine ET.is (et_or (et_not (et_B (ex_call (ea_dat (ex_var rfl) ea_nil) ⟨_, rfl, rfl⟩))) fun _ => et_not (et_test (ex_chain ex_int (ex_cb (eax_cons (ex_var rfl) eax_nil) rcx_lenL) ex_int rx_bl rx_bl))) ?_
    rw [el, e2, e3]
    cases decide (1 ≤ ps.length) <;> cases decide (ps.length ≤ 9) <;> rfl
  · have e1 : brdB ps = false := by
      unfold brdB
      cases h1 : decide (1 ≤ ps.length) <;> cases h2 : decide (ps.length ≤ 9) <;> rw [h1, h2] at e <;> first | rfl | exact nomatch e
    rw [e1] at h
    exact h
  have e1 : brdB ps = (((ps.mapIdx fun i p => strB p (i : Int) (ps.length : Int)).all id) && (((ps.zip (ps.drop 1)).map fun q => decide (q.1.1 ≤ q.2.1) && decide (q.1.2 ≤ q.2.2)).all id)) := by
    unfold brdB
    cases h1 : decide (1 ≤ ps.length) <;> cases h2 : decide (ps.length ≤ 9) <;> rw [h1, h2] at e <;> first | rfl | exact nomatch e
  rw [e1] at h
  refine sd_seq (sd_if (b := !((ps.mapIdx fun i p => strB p (i : Int) (ps.length : Int)).all id)) (et_not (et_B (ex_cb (eax_cons (EL.ex (EL.is (el_lc (ps.mapIdx fun i p => (i, p)) (fun q : Nat × (Int × Int) => .tuple [.int (q.1 : Int), pI q.2]) (fun _ => true) (fun q => .bool (strB q.2 (q.1 : Int) (ps.length : Int))) [2, 3] (IW.is (iw_enum (eax_cons (ex_var rfl) eax_nil)) ?_) (fun j h => h) ?_
    fun q hq => ⟨_, gd_tup (gds_cons gd_name (gds_cons gd_name gds_nil)) rfl, et_yes, fun _ => ex_call (ea_dat (ex_var rfl) (ea_dat (ex_var rfl) (ea_dat (EX.is (ex_cb (eax_cons (ex_var rfl) eax_nil) rcx_lenL) (by rw [el])) ea_nil))) ⟨q.2, _, _, rfl, rfl⟩⟩) (show _ = (ps.mapIdx fun i p => strB p (i : Int) (ps.length : Int)).map PyData.bool from ?_))) eax_nil) rcx_all))) (fun e => sd_ret ex_bl ?_) fun e => sd_next ?_)
  · exact List.ext_getElem (by simp) fun i h1 h2 => by simp
  · rw [List.length_mapIdx]; omega
  · rw [List.filter_eq_self.mpr fun _ _ => rfl]
    exact List.ext_getElem (by simp) fun i h1 h2 => by simp
  · have e5 : ((ps.mapIdx fun i p => strB p (i : Int) (ps.length : Int)).all id) = false := by
      cases h1 : ((ps.mapIdx fun i p => strB p (i : Int) (ps.length : Int)).all id) <;> rw [h1] at e <;> first | rfl | exact nomatch e
    rw [e5] at h
    exact h
  have e5 : ((ps.mapIdx fun i p => strB p (i : Int) (ps.length : Int)).all id) = true := by
    cases h1 : ((ps.mapIdx fun i p => strB p (i : Int) (ps.length : Int)).all id) <;> rw [h1] at e <;> first | rfl | exact nomatch e
  rw [e5] at h
  have go : ∀ (q : PyData × PyData) (u : Int × Int) (v : Int × Int), q = (pI u, pI v) → True := fun _ _ _ _ => trivial
  refine sd_zipAll (fun q => match q with | (.tuple [.int a, .int b], .tuple [.int c, .int d]) => decide (a ≤ c) && decide (b ≤ d) | _ => false) [4, 5] (by show 1 < 6; decide) (eax_cons (ex_var rfl) (eax_cons (EL.ex (EL.is (el_slL (ex_var rfl) (eo_some ex_int) eo_none) (show _ = (ps.drop 1).map pI from ?_))) eax_nil)) (fun j h => h) ?_ (fun z x hx => ?_) ?_
  · show cutI (ps.map pI) (some ((1 : Nat) : Int)) none = _
    rw [cutI_lo, List.map_drop]
  · rw [List.length_zip, List.length_map]; omega
  · have : x ∈ ((ps.zip (ps.drop 1)).map fun q => (pI q.1, pI q.2)) := by
      rw [List.zip_map] at hx
      exact hx
    obtain ⟨q, hq, rfl⟩ := List.mem_map.mp this
    have i0 : ∀ p : Int × Int, atI [PyData.int p.1, PyData.int p.2] 0 = some (.int p.1) := fun _ => rfl
    have i1 : ∀ p : Int × Int, atI [PyData.int p.1, PyData.int p.2] 1 = some (.int p.2) := fun _ => rfl
    exact ⟨_, gd_tup (gds_cons gd_name (gds_cons gd_name gds_nil)) rfl, ex_andV (ex_op (ex_op (ex_var rfl) ex_int (rx_ixT (i0 q.1))) (ex_op (ex_var rfl) ex_int (rx_ixT (i0 q.2))) rx_bl) fun _ => ex_op (ex_op (ex_var rfl) ex_int (rx_ixT (i1 q.1))) (ex_op (ex_var rfl) ex_int (rx_ixT (i1 q.2))) rx_bl⟩
  · rw [List.zip_map, List.map_map]
    exact h
def R_want_board (ss : List Sl) (P : PyData → Prop) : Prop := ∃ ps : List (Int × Int), ss = [.dat (lP ps)] ∧ ps.length ≤ 63 ∧ brdB ps = true ∧ P (lP ps)
theorem cal_want_board (F : C8.Def K mg "want_board" swant_board f fd) (bd : Binds K fd ["value"] []) (T : BI mg) (c_is_board : C8.Cal P w K mg base 3 "is_board" (spR K R_is_board) []) : C8.Cal P w K mg base 4 "want_board" (spR K R_want_board) [] := by
  have sc := scwant_board
  refine def_by F bd sc (by decide) (fun ss P h => by obtain ⟨p, rfl, _⟩ := h; rfl) fun cdv A outer s H E hr => ⟨_, (pss_cons (ps_if (pt_not (pt_val (C8.pe_c c_is_board hr (by decide) (by rfl) (pa_cons (pv 0) pa_nil)))) (pss_one ps_never) pss_nil) (pss_one (ps_ret (pe_callTy call_list_of (by rfl) T.list (by decide +kernel) (pa_cons (pv 0) pa_nil))))), fun ss Pd h => ?_⟩
  obtain ⟨ps, rfl, h63, hb, h⟩ := h
  refine sd_seq (sd_if (b := false) ?_ (fun e => nomatch e) fun _ => sd_next ?_)
  · exact et_not (b := true) (et_B (ex_call (ea_dat (ex_var rfl) ea_nil) ⟨ps, rfl, h63, by rw [hb]⟩))
  · exact sd_ret (EL.ex (el_cb (eax_cons (ex_var rfl) eax_nil) rcl_listL)) h
def R_board_in (ss : List Sl) (P : PyData → Prop) : Prop := ∃ o : List Int, ss = [.dat (tI o)] ∧ o.length ≤ 63 ∧ P (lP (boardM o))
theorem cal_board_in (F : C8.Def K mg "board_in" sboard_in f fd) (bd : Binds K fd ["order"] []) (T : BI mg) : C8.Cal P w K mg base 1 "board_in" (spR K R_board_in) [] := by
  have sc := scboard_in
  refine def_by F bd sc (by decide) (fun ss P h => by obtain ⟨p, rfl, _⟩ := h; rfl) fun cdv A outer s H E hr => ⟨_, (pss_cons (ps_par (i := 1) (j := 2) rfl sc.nd rfl rfl (by decide) rfl rfl (pa_cons (pe_lst pa_nil) (pa_cons (pe_lst pa_nil) pa_nil)) (by rfl)) (pss_cons (ps_for PassesOwn.never rfl (pi_tup (pv 0)) (pg_name (i := 3) sc.nd rfl (.inl rfl)) (pss_one (ps_expr (pe_bm PySem.F.plainAttrs_list PySem.F.slot_list_append PySem.F.type_list_append mt_append (pv 1) (pa_cons (pe_ifExp (pt_cmpR (op_neD hr.units) (pv 1) (pe_lst pa_nil) (nomark _)) (pe_callB (call_max2 rfl) (by rfl) T.max (by decide +kernel) (pa_cons (pv 3) (pa_cons (pe_ix ix_list (pv 1) (pe_un un_neg pe_int) (fun _ _ => rfl)) pa_nil))) (pv 3)) pa_nil))))) (pss_cons (ps_for PassesOwn.never rfl (pi_tup (pe_revT (pv 0))) (pg_name (i := 3) sc.nd rfl (.inl rfl)) (pss_one (ps_expr (pe_bm PySem.F.plainAttrs_list PySem.F.slot_list_append PySem.F.type_list_append mt_append (pv 2) (pa_cons (pe_ifExp (pt_cmpR (op_neD hr.units) (pv 2) (pe_lst pa_nil) (nomark _)) (pe_callB (call_min2 rfl) (by rfl) T.min (by decide +kernel) (pa_cons (pv 3) (pa_cons (pe_ix ix_list (pv 2) (pe_un un_neg pe_int) (fun _ _ => rfl)) pa_nil))) (pv 3)) pa_nil))))) (pss_one (ps_ret (pe_listZip rfl (by rfl) T.list (by rfl) T.zip (pa_cons (pe_revL (pv 2)) (pa_cons (pv 1) pa_nil)))))))), fun ss Pd h => ?_⟩
  obtain ⟨o, rfl, h63, h⟩ := h
  have en : ∀ (l : List Int) (x : Int), l.map PyData.int ++ [.int x] = (l ++ [x]).map PyData.int := fun l x => by rw [List.map_append]; rfl
  have eq0 : ∀ acc : List Int, (!PyData.eqv (lI acc) (.list [])) = !decide (acc = []) := fun acc => by rw [← eqv_lI acc []]; rfl
  refine sd_seq (sd_par (EL.toS (el_lst eax_nil (by decide))) (EL.toS (el_lst eax_nil (by decide))) ?_)
  refine sd_seq (sd_forX o PyData.int (fun i ρ' => ∃ acc s3, acc.length = i ∧ ρ' = [.dat (tI o), .own (acc.map PyData.int), .own [], s3] ∧ hiGo acc (o.drop i) = hiGo [] o) (iw_tup (ex_var rfl)) ⟨[], .no, rfl, rfl, rfl⟩ ?_ ?_)
  · rintro i t ρ' ht hlt ⟨acc, s3, hl, rfl, hg⟩
    rw [List.drop_eq_getElem_cons hlt, show o[i] = t from Option.some.inj ((List.getElem?_eq_getElem hlt).symm.trans ht)] at hg
    refine ⟨_, _, gd_name, ?_⟩
    refine sd_append (d := .int (match acc.getLast? with | none => t | some y => if y > t then y else t)) rfl (ex_frz 1 rfl rfl (ex_if (b := !decide (acc = [])) (et_test (EX.is (ex_op (ex_var rfl) (EL.ex (el_lst eax_nil (by decide))) (rx_neD (shaped_lI acc) (shaped_lI []))) (by rw [eq0 acc]))) (fun e => ?_) fun e => ?_)) ?_ ?_
    · have hne : acc ≠ [] := by
        intro z
        rw [decide_eq_true z] at e
        exact nomatch e
      obtain ⟨y, hy⟩ : ∃ y, acc.getLast? = some y := ⟨_, List.getLast?_eq_some_getLast hne⟩
      rw [hy]
      exact ex_cb (eax_cons (ex_var rfl) (eax_cons (ex_op (ex_var rfl) (ex_un ex_int ux_neg) (rx_ixL (z := .int y) (atI_last (by rw [List.getLast?_map, hy]; rfl)))) eax_nil)) rcx_max2
    · have hne : acc = [] := by
        cases acc with
        | nil => rfl
        | cons a l => exact nomatch e
      subst hne
      exact ex_var rfl
    · rw [List.length_map]; omega
    · exact ⟨_, .dat (.int t), by rw [List.length_append, hl]; rfl, by rw [en]; rfl, hg⟩
  rintro ρ' ⟨hs, s3, hl, rfl, hg⟩
  rw [List.drop_length] at hg
  have ehs : hs = hiGo [] o := hg
  refine sd_seq (sd_forX o.reverse PyData.int (fun i ρ' => ∃ acc s3, acc.length = i ∧ ρ' = [.dat (tI o), .own (hs.map PyData.int), .own (acc.map PyData.int), s3] ∧ loGo acc (o.reverse.drop i) = loGo [] o.reverse) (IW.is (iw_tup (ex_revT (ex_var rfl))) (by rw [List.map_reverse])) ⟨[], s3, rfl, rfl, rfl⟩ ?_ ?_)
  · rintro i t ρ' ht hlt ⟨acc, s3, hl, rfl, hg⟩
    rw [List.drop_eq_getElem_cons hlt, show o.reverse[i] = t from Option.some.inj ((List.getElem?_eq_getElem hlt).symm.trans ht)] at hg
    have hlt' : i < 63 := by rw [List.length_reverse] at hlt; omega
    refine ⟨_, _, gd_name, ?_⟩
    refine sd_append (d := .int (match acc.getLast? with | none => t | some y => if y < t then y else t)) rfl (ex_frz 2 rfl rfl (ex_if (b := !decide (acc = [])) (et_test (EX.is (ex_op (ex_var rfl) (EL.ex (el_lst eax_nil (by decide))) (rx_neD (shaped_lI acc) (shaped_lI []))) (by rw [eq0 acc]))) (fun e => ?_) fun e => ?_)) ?_ ?_
    · have hne : acc ≠ [] := by
        intro z
        rw [decide_eq_true z] at e
        exact nomatch e
      obtain ⟨y, hy⟩ : ∃ y, acc.getLast? = some y := ⟨_, List.getLast?_eq_some_getLast hne⟩
      rw [hy]
      exact ex_cb (eax_cons (ex_var rfl) (eax_cons (ex_op (ex_var rfl) (ex_un ex_int ux_neg) (rx_ixL (z := .int y) (atI_last (by rw [List.getLast?_map, hy]; rfl)))) eax_nil)) rcx_min2
    · have hne : acc = [] := by
        cases acc with
        | nil => rfl
        | cons a l => exact nomatch e
      subst hne
      exact ex_var rfl
    · rw [List.length_map]; omega
    · exact ⟨_, .dat (.int t), by rw [List.length_append, hl]; rfl, by rw [en]; rfl, hg⟩
  rintro ρ' ⟨ls, s3, hl2, rfl, hg⟩
  rw [List.drop_length] at hg
  have els : ls = loGo [] o.reverse := hg
  rw [List.length_reverse] at hl2
  refine sd_freeze 1 rfl (sd_freeze 2 rfl (sd_ret (EL.ex (EL.is (el_listZip (eax_cons (EL.ex (EL.is (el_revL (ex_var rfl)) (show _ = ls.reverse.map PyData.int from ?_))) (eax_cons (ex_var rfl) eax_nil)) ?_ ?_) ?_)) h))
  · rw [List.map_reverse]
  · rw [List.length_map, List.length_map, List.length_reverse, hl, hl2]
  · rw [List.length_map, List.length_reverse, hl2]; omega
  · unfold boardM
    rw [← ehs, ← els]
    exact zip_tups _ _ _ _
def R_board_of (ss : List Sl) (P : PyData → Prop) : Prop := ∃ d o, ss = [.dat d] ∧ (d = tI o ∨ d = lI o) ∧ o.length ≤ 63 ∧ isOrd o = true ∧ P (lP (boardM o))
theorem cal_board_of (F : C8.Def K mg "board_of" sboard_of f fd) (bd : Binds K fd ["order"] []) (T : BI mg) (c_want_order : C8.Cal P w K mg base 3 "want_order" (spR K R_want_order) []) (c_board_in : C8.Cal P w K mg base 1 "board_in" (spR K R_board_in) []) : C8.Cal P w K mg base 4 "board_of" (spR K R_board_of) [] := by
  have sc := scboard_of
  refine def_by F bd sc (by decide) (fun ss P h => by obtain ⟨p, _, rfl, _⟩ := h; rfl) fun cdv A outer s H E hr => ⟨_, (pss_one (ps_ret (C8.pe_c c_board_in hr (by decide) (by rfl) (pa_cons (C8.pe_c c_want_order hr (by decide) (by rfl) (pa_cons (pv 0) pa_nil)) pa_nil)))), fun ss Pd h => ?_⟩
  obtain ⟨d, o, rfl, hd, h63, ho, h⟩ := h
  exact sd_ret (ex_call (ea_dat (ex_call (ea_dat (ex_var rfl) ea_nil) ⟨d, o, rfl, hd, h63, ho, rfl⟩) ea_nil) ⟨o, rfl, h63, rfl⟩) h
def R_lays (ss : List Sl) (P : PyData → Prop) : Prop := ∃ (ps : List (Int × Int)) (v : List Int), ss = [.dat (lP ps), .dat (tI v)] ∧ ps.length = v.length ∧ v.length ≤ 63 ∧ P (.bool (laysB ps v))
theorem cal_lays (F : C8.Def K mg "lays" slays f fd) (bd : Binds K fd ["board", "order"] []) (T : BI mg) : C8.Cal P w K mg base 1 "lays" (spR K R_lays) [] := by
  have sc := sclays
  refine def_by F bd sc (by decide) (fun ss P h => by obtain ⟨p, _, rfl, _⟩ := h; rfl) fun cdv A outer s H E hr => ⟨_, (pss_one (ps_ret (pe_callB (cr_all rfl) (by rfl) T.all (by decide +kernel) (pa_cons (pe_lc (own := [("low", 2), ("high", 3), ("thing", 4)]) rfl sc.nd (pi_zipM (by rfl) T.zip (pa_cons (pv 0) (pa_cons (pv 1) pa_nil))) (blkOk_by (own := [("low", 2), ("high", 3), ("thing", 4)]) (N := Nlays) (sc := C8.fnScope slays) (by decide +kernel)) (fun _ _ _ _ _ => (pg_tupK (K := K) (n := 2) rfl rfl (pgs_cons (pg_tupK (K := K) (n := 2) rfl rfl (pgs_cons (pg_name (i := 2) sc.nd rfl (.inl rfl) (.inr rfl)) (pgs_cons (pg_name (i := 3) sc.nd rfl (.inl rfl) (.inr rfl)) pgs_nil))) (pgs_cons (pg_name (i := 4) sc.nd rfl (.inl rfl) (.inr rfl)) pgs_nil)))) (fun _ _ _ _ _ => pts_nil) (fun _ _ _ _ _ => (pe_chain op_le op_le (pv 2) (pv 4) (pv 3)))) pa_nil)))), fun ss Pd h => ?_⟩
  obtain ⟨ps, v, rfl, hl, h63, h⟩ := h
  refine sd_ret (ex_cb (eax_cons (EL.ex (EL.is (el_lc (ps.zip v) (fun q => .tuple [pI q.1, .int q.2]) (fun _ => true) (fun q => .bool (decide (q.1.1 ≤ q.2) && decide (q.2 ≤ q.1.2))) [2, 3, 4] (IW.is (iw_zipM (eax_cons (ex_var rfl) (eax_cons (ex_var rfl) eax_nil)) ?_) (zip_tups _ _ _ _)) (fun j h => h) ?_
    fun q hq => ⟨_, gd_tup (gds_cons (gd_tup (gds_cons gd_name (gds_cons gd_name gds_nil)) rfl) (gds_cons gd_name gds_nil)) rfl, et_yes, fun _ => ex_chain (ex_var rfl) (ex_var rfl) (ex_var rfl) rx_bl rx_bl⟩) (show _ = ((ps.zip v).map fun q => decide (q.1.1 ≤ q.2) && decide (q.2 ≤ q.1.2)).map PyData.bool from ?_))) eax_nil) rcx_all) h
  · rw [List.length_map, List.length_map]; exact hl
  · rw [List.length_zip]; omega
  · rw [List.filter_eq_self.mpr fun _ _ => rfl, List.map_map]
    rfl
def R_is_laying (ss : List Sl) (P : PyData → Prop) : Prop := ∃ ps d v, ss = [.dat (lP ps), .dat d] ∧ (d = tI v ∨ d = lI v) ∧ v.length ≤ 63 ∧ isOrd v = true ∧ brdB ps = true ∧ ps.length = v.length ∧ P (.bool (laysB ps v))
theorem cal_is_laying (F : C8.Def K mg "is_laying" sis_laying f fd) (bd : Binds K fd ["board", "order"] []) (T : BI mg) (c_want_order : C8.Cal P w K mg base 3 "want_order" (spR K R_want_order) []) (c_want_board : C8.Cal P w K mg base 4 "want_board" (spR K R_want_board) []) (c_lays : C8.Cal P w K mg base 1 "lays" (spR K R_lays) []) : C8.Cal P w K mg base 5 "is_laying" (spR K R_is_laying) [] := by
  have sc := scis_laying
  refine def_by F bd sc (by decide) (fun ss P h => by obtain ⟨p, _, _, rfl, _⟩ := h; rfl) fun cdv A outer s H E hr => ⟨_, (pss_cons (ps_par (i := 2) (j := 3) rfl sc.nd rfl rfl (by decide) rfl rfl (pa_cons (C8.pe_c c_want_board hr (by decide) (by rfl) (pa_cons (pv 0) pa_nil)) (pa_cons (C8.pe_c c_want_order hr (by decide) (by rfl) (pa_cons (pv 1) pa_nil)) pa_nil)) (by rfl)) (pss_one (ps_ret (pe_and (pe_cmpR op_eq (pe_callB call_len_seq (by rfl) T.len (by decide +kernel) (pa_cons (pv 3) pa_nil)) (pe_callB call_len_seq (by rfl) T.len (by decide +kernel) (pa_cons (pv 2) pa_nil)) (nomark _)) (pe_one (C8.pe_c c_lays hr (by decide) (by rfl) (pa_cons (pv 2) (pa_cons (pv 3) pa_nil)))))))), fun ss Pd h => ?_⟩
  obtain ⟨ps, d, v, rfl, hd, h63, ho, hb, hl, h⟩ := h
  refine sd_seq (sd_par (EX.toS (ex_call (ea_dat (ex_var rfl) ea_nil) ⟨ps, rfl, by omega, hb, rfl⟩)) (EX.toS (ex_call (ea_dat (ex_var rfl) ea_nil) ⟨d, v, rfl, hd, h63, ho, rfl⟩)) ?_)
  refine sd_ret (EX.is (ex_andV (ex_op (ex_cb (eax_cons (ex_var rfl) eax_nil) rcx_lenT) (ex_cb (eax_cons (ex_var rfl) eax_nil) rcx_lenL) rx_eqI) fun _ => ex_call (ea_dat (ex_var rfl) (ea_dat (ex_var rfl) ea_nil)) ⟨ps, v, rfl, hl, h63, rfl⟩) ?_) h
  rw [List.length_map, List.length_map, hl, decide_eq_true rfl]
  rfl
end
end Kd

/-! The program's standing and four. -/
namespace Kd
open PySem PySem.Spec PyProof.Rows L2 Evl

def iN (l : List Nat) : List Int := l.map fun k : Nat => (k : Int)
abbrev tN (l : List Nat) : PyData := tI (iN l)
def fitsB (ts wy : List Int) : Bool := ((List.range (ts.length - 1)).map fun k => (decide (ts.getD k 0 < ts.getD (ts.length - 1) 0) == decide (wy.getD k 0 < wy.getD (ts.length - 1) 0))).all id
def beginM (pl : List Nat) : Nat := match pl.getLast? with | none => 0 | some y => y + 1
def fitAt (o wy : List Int) (pl : List Nat) : Bool := fitsB (pl.map fun k => o.getD k 0) wy
def extM (o wy : List Int) (pl : List Nat) : List (List Nat) := ((List.range' (beginM pl) (o.length - beginM pl)).filter fun p => fitAt o wy (pl ++ [p])).map fun p => pl ++ [p]
def extP (o wy : List Int) (pl : List Nat) (j : Nat) : List (List Nat) := ((List.range' (beginM pl) j).filter fun p => fitAt o wy (pl ++ [p])).map fun p => pl ++ [p]
theorem extP_yes {o wy : List Int} {pl : List Nat} {j : Nat} (e : fitAt o wy (pl ++ [beginM pl + j]) = true) : extP o wy pl (j + 1) = extP o wy pl j ++ [pl ++ [beginM pl + j]] := by
  unfold extP
  rw [List.range'_concat, List.filter_append, Nat.one_mul, List.filter_cons, if_pos e, List.map_append]
  rfl
theorem extP_no {o wy : List Int} {pl : List Nat} {j : Nat} (e : fitAt o wy (pl ++ [beginM pl + j]) = false) : extP o wy pl (j + 1) = extP o wy pl j := by
  unfold extP
  rw [List.range'_concat, List.filter_append, Nat.one_mul, List.filter_cons, if_neg (by rw [e]; decide), List.filter_nil, List.append_nil]
theorem extP_len (o wy : List Int) (pl : List Nat) (j : Nat) : (extP o wy pl j).length ≤ j := by
  unfold extP
  rw [List.length_map]
  refine Nat.le_trans (List.length_filter_le _ _) ?_
  rw [List.length_range']
  exact Nat.le_refl _
def standGo (o wy : List Int) : Nat → List (List Nat) → List (List Nat)
  | 0, found => found
  | k + 1, found => standGo o wy k (found.flatMap (extM o wy))
def standM (o wy : List Int) : List (List Nat) := standGo o wy wy.length [[]]
def wayM (o : List Int) : List (List Int) → Option (List Int × List Nat)
  | [] => none
  | wy :: ws => match (standM o wy).head? with
    | some l => some (wy, l)
    | none => wayM o ws
theorem wayM_cons (o wy : List Int) (ws : List (List Int)) : wayM o (wy :: ws) = match (standM o wy).head? with | some l => some (wy, l) | none => wayM o ws := rfl
def wayD : Option (List Int × List Nat) → PyData
  | none => .none
  | some (wy, l) => .tuple [tI wy, tN l]
def fourL : List (List Int) := [[4, 2, 3, 1], [3, 5, 1, 4, 2], [4, 2, 5, 1, 3], [3, 5, 1, 6, 2, 4]]
theorem iN_snoc (pl : List Nat) (p : Nat) : iN (pl ++ [p]) = iN pl ++ [(p : Int)] := by
  unfold iN
  rw [List.map_append]
  rfl

section
variable {P : Program} {w : World} {K : PySem.W.Frag} {mg : Str → Option Value} {base : Heap} {f : Addr} {fd : FuncData}
abbrev stold_order : Stmt := topS 35
abbrev Ntold_order : List Str := ["value"]
theorem sctold_order : FnScope Ntold_order ["value"] (C8.fnScope stold_order) := C8.fnScope_by (by decide +kernel)
abbrev sfits : Stmt := topS 36
abbrev Nfits : List Str := ["things", "way", "last", "at"]
theorem scfits : FnScope Nfits ["things", "way"] (C8.fnScope sfits) := C8.fnScope_by (by decide +kernel)
abbrev sstandings_in : Stmt := topS 37
abbrev Nstandings_in : List Str := ["order", "way", "found", "size", "longer", "places", "begin", "place", "at"]
theorem scstandings_in : FnScope Nstandings_in ["order", "way"] (C8.fnScope sstandings_in) := C8.fnScope_by (by decide +kernel)
abbrev sfirst_in : Stmt := topS 38
abbrev Nfirst_in : List Str := ["order", "way", "found"]
theorem scfirst_in : FnScope Nfirst_in ["order", "way"] (C8.fnScope sfirst_in) := C8.fnScope_by (by decide +kernel)
abbrev sway_in : Stmt := topS 42
abbrev Nway_in : List Str := ["order", "ways", "way", "places"]
theorem scway_in : FnScope Nway_in ["order", "ways"] (C8.fnScope sway_in) := C8.fnScope_by (by decide +kernel)
abbrev sis_free : Stmt := topS 43
abbrev Nis_free : List Str := ["order"]
theorem scis_free : FnScope Nis_free ["order"] (C8.fnScope sis_free) := C8.fnScope_by (by decide +kernel)
theorem cal_told_order (F : C8.Def K mg "told_order" stold_order f fd) (bd : Binds K fd ["value"] []) (T : BI mg) (c_is_order : C8.Cal P w K mg base 2 "is_order" (spR K R_is_order) []) : C8.Cal P w K mg base 3 "told_order" (spR K R_want_order) [] := by
  have sc := sctold_order
  refine def_by F bd sc (by decide) (fun ss P h => by obtain ⟨d, ns, rfl, _⟩ := h; rfl) fun cdv A outer s H E hr => ⟨_, (pss_cons (ps_if (pt_not (pt_val (C8.pe_c c_is_order hr (by decide) (by rfl) (pa_cons (pv 0) pa_nil)))) (pss_one ps_never) pss_nil) (pss_one (ps_ret (pe_callTy call_tuple_of (by rfl) T.tuple (by decide +kernel) (pa_cons (pv 0) pa_nil))))), fun ss Pd h => ?_⟩
  obtain ⟨d, ns, rfl, hd, h63, ho, h⟩ := h
  refine sd_seq (sd_if (b := false) ?_ (fun e => nomatch e) fun _ => sd_next ?_)
  · exact et_not (b := true) (et_B (ex_call (ea_dat (ex_var rfl) ea_nil) ⟨d, rfl, .inl ⟨ns, hd, h63, by rw [ho]⟩⟩))
  · exact sd_ret (ex_cb (eax_cons (ex_var rfl) eax_nil) (rcx_tupI hd)) h
def R_fits (ss : List Sl) (P : PyData → Prop) : Prop := ∃ (ts wy : List Int), ss = [.dat (lI ts), .dat (tI wy)] ∧ 1 ≤ ts.length ∧ ts.length ≤ wy.length ∧ wy.length ≤ 63 ∧ P (.bool (fitsB ts wy))
theorem cal_fits (F : C8.Def K mg "fits" sfits f fd) (bd : Binds K fd ["things", "way"] []) (T : BI mg) : C8.Cal P w K mg base 1 "fits" (spR K R_fits) [] := by
  have sc := scfits
  refine def_by F bd sc (by decide) (fun ss P h => by obtain ⟨p, _, rfl, _⟩ := h; rfl) fun cdv A outer s H E hr => ⟨_, (pss_cons (ps_set (i := 2) sc.nd rfl (.inr rfl) (pe_op op_sub (pe_callB call_len_seq (by rfl) T.len (by decide +kernel) (pa_cons (pv 0) pa_nil)) pe_int)) (pss_one (ps_ret (pe_callB (cr_all rfl) (by rfl) T.all (by decide +kernel) (pa_cons (pe_lc (own := [("at", 3)]) rfl sc.nd (pi_range1 (by rfl) T.range (pa_cons (pv 2) pa_nil)) (blkOk_by (own := [("at", 3)]) (N := Nfits) (sc := C8.fnScope sfits) (by decide +kernel)) (fun _ _ _ _ _ => (pg_name (i := 3) sc.nd rfl (.inl rfl))) (fun _ _ _ _ _ => pts_nil) (fun _ _ _ _ _ => (pe_cmpR op_eq (pe_cmpR op_lt (pe_ix (ix_listK (K := K) rfl) (pv 0) (pv 3) (fun _ _ => rfl)) (pe_ix (ix_listK (K := K) rfl) (pv 0) (pv 2) (fun _ _ => rfl)) (nomark _)) (pe_cmpR op_lt (pe_ix (ix_tupK (K := K) rfl) (pv 1) (pv 3) (fun _ _ => rfl)) (pe_ix (ix_tupK (K := K) rfl) (pv 1) (pv 2) (fun _ _ => rfl)) (nomark _)) (nomark _)))) pa_nil))))), fun ss Pd h => ?_⟩
  obtain ⟨ts, wy, rfl, h1, h2, h63, h⟩ := h
  have el : ((ts.map PyData.int).length : Int) - 1 = ((ts.length - 1 : Nat) : Int) := by rw [List.length_map]; omega
  refine sd_seq (sd_asg (EX.toS (EX.is (ex_op (ex_cb (eax_cons (ex_var rfl) eax_nil) rcx_lenL) ex_int rx_int) (show _ = PyData.int ((ts.length - 1 : Nat) : Int) from by rw [← el]))) ?_)
  refine sd_ret (ex_cb (eax_cons (EL.ex (EL.is (el_lc (List.range' 0 (ts.length - 1)) (fun k : Nat => .int (k : Int)) (fun _ => true) (fun k => .bool (decide (ts.getD k 0 < ts.getD (ts.length - 1) 0) == decide (wy.getD k 0 < wy.getD (ts.length - 1) 0))) [3] (iw_rn1 (ex_var rfl) (by omega)) (fun j h => h) (by rw [List.length_range']; omega)
    fun k hk => ⟨_, gd_name, et_yes, fun _ => ?_⟩) (show _ = ((List.range (ts.length - 1)).map fun k => (decide (ts.getD k 0 < ts.getD (ts.length - 1) 0) == decide (wy.getD k 0 < wy.getD (ts.length - 1) 0))).map PyData.bool from ?_))) eax_nil) rcx_all) h
  · have hk' := List.mem_range'_1.mp hk
    exact ex_op (ex_op (ex_op (ex_var rfl) (ex_var rfl) (rx_ixL (atI_int (by omega)))) (ex_op (ex_var rfl) (ex_var rfl) (rx_ixL (atI_int (by omega)))) rx_bl) (ex_op (ex_op (ex_var rfl) (ex_var rfl) (rx_ixT (atI_int (by omega)))) (ex_op (ex_var rfl) (ex_var rfl) (rx_ixT (atI_int (by omega)))) rx_bl) rx_eqB
  · rw [List.filter_eq_self.mpr fun _ _ => rfl, List.map_map, List.range_eq_range']
    rfl
def R_standings_in (ss : List Sl) (P : PyData → Prop) : Prop := ∃ (o wy : List Int), ss = [.dat (tI o), .dat (tI wy)] ∧ o.length ≤ 6 ∧ wy.length ≤ 6 ∧ P (.list ((standM o wy).map tN))
theorem flat_len {α β : Type} (g : α → List β) (n : Nat) (hg : ∀ a, (g a).length ≤ n) : ∀ l : List α, (l.flatMap g).length ≤ l.length * n
  | [] => Nat.zero_le _
  | a :: l => by
    rw [List.flatMap_cons, List.length_append, List.length_cons, Nat.succ_mul]
    have h1 := hg a
    have h2 := flat_len g n hg l
    omega
theorem extM_len (o wy : List Int) (pl : List Nat) : (extM o wy pl).length ≤ o.length := by
  unfold extM
  rw [List.length_map]
  refine Nat.le_trans (List.length_filter_le _ _) ?_
  rw [List.length_range']
  omega
theorem cal_standings_in (F : C8.Def K mg "standings_in" sstandings_in f fd) (bd : Binds K fd ["order", "way"] []) (T : BI mg) (c_fits : C8.Cal P w K mg base 1 "fits" (spR K R_fits) []) : C8.Cal P w K mg base 2 "standings_in" (spR K R_standings_in) [] := by
  have sc := scstandings_in
  refine def_by F bd sc (by decide) (fun ss P h => by obtain ⟨p, _, rfl, _⟩ := h; rfl) fun cdv A outer s H E hr => ⟨_, (pss_cons (ps_set (i := 2) sc.nd rfl (.inl rfl) (pe_lst (pa_cons (pe_tup pa_nil) pa_nil))) (pss_cons (ps_for PassesOwn.never rfl (pi_range1 (by rfl) T.range (pa_cons (pe_callB call_len_seq (by rfl) T.len (by decide +kernel) (pa_cons (pv 1) pa_nil)) pa_nil)) (pg_name (i := 3) sc.nd rfl (.inl rfl)) (pss_cons (ps_set (i := 4) sc.nd rfl (.inl rfl) (pe_lst pa_nil)) (pss_cons (ps_for PassesOwn.never rfl (pi_list (pv 2)) (pg_name (i := 5) sc.nd rfl (.inl rfl)) (pss_cons (ps_set (i := 6) sc.nd rfl (.inl rfl) (pe_ifExp (pt_cmpR (op_neD hr.units) (pv 5) (pe_tup pa_nil) (nomark _)) (pe_op op_add (pe_ix ix_tup (pv 5) (pe_un un_neg pe_int) (fun _ _ => rfl)) pe_int) pe_int)) (pss_one (ps_for PassesOwn.never rfl (pi_range2 (by rfl) T.range (pa_cons (pv 6) (pa_cons (pe_callB call_len_seq (by rfl) T.len (by decide +kernel) (pa_cons (pv 0) pa_nil)) pa_nil))) (pg_name (i := 7) sc.nd rfl (.inl rfl)) (pss_one (ps_if (pt_val (C8.pe_c c_fits hr (by decide) (by rfl) (pa_cons (pe_lc (own := [("at", 8)]) rfl sc.nd (pi_tup (pe_op op_catA (pv 5) (pe_tup (pa_cons (pv 7) pa_nil)))) (blkOk_by (own := [("at", 8)]) (N := Nstandings_in) (sc := C8.fnScope sstandings_in) (by decide +kernel)) (fun _ _ _ _ _ => (pg_name (i := 8) sc.nd rfl (.inl rfl))) (fun _ _ _ _ _ => pts_nil) (fun _ _ _ _ _ => (pe_ix (ix_tupK (K := K) rfl) (pv 0) (pv 8) (fun _ _ => rfl)))) (pa_cons (pv 1) pa_nil)))) (pss_one (ps_expr (pe_bm PySem.F.plainAttrs_list PySem.F.slot_list_append PySem.F.type_list_append mt_append (pv 4) (pa_cons (pe_op op_catA (pv 5) (pe_tup (pa_cons (pv 7) pa_nil))) pa_nil)))) pss_nil)))))) (pss_one (ps_set (i := 2) sc.nd rfl (.inl rfl) (pv 4)))))) (pss_one (ps_ret (pv 2))))), fun ss Pd h => ?_⟩
  obtain ⟨o, wy, rfl, h6, hw6, h⟩ := h
  have elo : ((o.map PyData.int).length : Int) = (o.length : Int) := by rw [List.length_map]
  have elw : ((wy.map PyData.int).length : Int) = (wy.length : Int) := by rw [List.length_map]
  refine sd_seq (sd_asg (EX.toS (EL.ex (el_lst (eax_cons (ex_tup eax_nil (by decide)) eax_nil) (by show 1 ≤ 100000; decide)))) ?_)
  refine sd_seq (sd_forN 0 wy.length (fun i ρ' => ∃ found s3 s4 s5 s6 s7 s8, ρ' = [.dat (tI o), .dat (tI wy), .dat (.list (found.map tN)), s3, s4, s5, s6, s7, s8] ∧ found.length ≤ 6 ^ i ∧ i ≤ wy.length ∧ (∀ pl ∈ found, pl.length = i ∧ ∀ x ∈ pl, x < o.length) ∧ standGo o wy (wy.length - i) found = standM o wy)
    (iw_rn1 (EX.is (ex_cb (eax_cons (ex_var rfl) eax_nil) rcx_lenT) (by rw [elw])) (by omega)) ⟨[[]], .no, .no, .no, .no, .no, .no, rfl, by decide, Nat.zero_le _, fun pl hp => by rw [List.mem_singleton.mp hp]; exact ⟨rfl, fun _ h => nomatch h⟩, rfl⟩ ?_ ?_)
  · rintro i ρ' hi ⟨found, s3, s4, s5, s6, s7, s8, rfl, hl, hiw, hpl, hg⟩
    have h66 : 6 ^ i ≤ 7776 := by
      have : i ≤ 5 := by omega
      exact Nat.le_trans (Nat.pow_le_pow_right (by decide) this) (by decide)
    refine ⟨_, _, gd_name, ?_⟩
    refine sd_seq (sd_asg (EL.toS (el_lst eax_nil (by decide))) ?_)
    refine sd_seq (sd_forX found tN (fun k ρ' => ∃ s5 s6 s7 s8, ρ' = [.dat (tI o), .dat (tI wy), .dat (.list (found.map tN)), .dat (.int ((0 + i : Nat) : Int)), .own (((found.take k).flatMap (extM o wy)).map tN), s5, s6, s7, s8]) (iw_list (ex_var rfl)) ⟨s5, s6, s7, s8, rfl⟩ ?_ ?_)
    · rintro k pl ρ' hk hkl ⟨s5, s6, s7, s8, rfl⟩
      have hm : pl ∈ found := List.mem_of_getElem? hk
      obtain ⟨pl1, pl2⟩ := hpl pl hm
      have hb : beginM pl ≤ o.length := by
        unfold beginM
        split
        · omega
        · rename_i y hy
          have := pl2 y (List.mem_of_getLast? hy)
          omega
      have acc1 : ((found.take k).flatMap (extM o wy)).length ≤ 7776 * 6 := by
        refine Nat.le_trans (flat_len _ 6 (fun a => Nat.le_trans (extM_len o wy a) h6) _) (Nat.mul_le_mul_right 6 ?_)
        rw [List.length_take]
        omega
      have tk : found.take (k + 1) = found.take k ++ [pl] := by
        rw [List.take_add_one, hk]
        rfl
      refine ⟨_, _, gd_name, ?_⟩
      have eq0 : (!PyData.eqv (tN pl) (.tuple [])) = !decide (iN pl = []) := by rw [← eqv_tI (iN pl) []]; rfl
      refine sd_seq (sd_asg (EX.toS (d := .int (beginM pl : Int)) (ex_if (b := !decide (iN pl = [])) (et_test (EX.is (ex_op (ex_var rfl) (ex_tup eax_nil (by decide)) (rx_neD (shaped_tI (iN pl)) (shaped_tI []))) (by rw [eq0]))) (fun e => ?_) fun e => ?_)) ?_)
      · have hne : pl ≠ [] := by
          intro z
          rw [z] at e
          exact nomatch e
        obtain ⟨y, hy⟩ : ∃ y, pl.getLast? = some y := ⟨_, List.getLast?_eq_some_getLast hne⟩
        refine EX.is (ex_op (ex_op (ex_var rfl) (ex_un ex_int ux_neg) (rx_ixT (z := .int (y : Int)) (atI_last (by unfold iN; rw [List.map_map, List.getLast?_map, hy]; rfl)))) ex_int rx_int) ?_
        unfold beginM
        rw [hy]
        rfl
      · have hne : pl = [] := by
          cases pl with
          | nil => rfl
          | cons a l => exact nomatch e
        subst hne
        exact ex_int
      refine sd_forN (beginM pl) (o.length - beginM pl) (fun j ρ' => ∃ s7 s8, ρ' = [.dat (tI o), .dat (tI wy), .dat (.list (found.map tN)), .dat (.int ((0 + i : Nat) : Int)), .own (((found.take k).flatMap (extM o wy) ++ extP o wy pl j).map tN), .dat (tN pl), .dat (.int (beginM pl : Int)), s7, s8])
        (iw_rn2 (ex_var rfl) (EX.is (ex_cb (eax_cons (ex_var rfl) eax_nil) rcx_lenT) (by rw [elo])) (by omega)) ⟨s7, s8, by rw [show extP o wy pl 0 = [] from rfl, List.append_nil]; rfl⟩ ?_ ?_
      · rintro j ρ' hj ⟨s7, s8, rfl⟩
        refine ⟨_, _, gd_name, ?_⟩
        have ecat : ∀ p : Nat, (iN pl).map PyData.int ++ [.int (p : Int)] = (iN (pl ++ [p])).map PyData.int := fun p => by rw [iN_snoc, List.map_append]; rfl
        have hcat : ∀ (ρ : Rho), ρ[5]? = some (.dat (tN pl)) → ρ[7]? = some (.dat (.int ((beginM pl + j : Nat) : Int))) → EX K (tOp (rCatA K) (tVar 5) (tTup (tCons (tVar 7) tNil))) ρ (tN (pl ++ [beginM pl + j])) := fun ρ h1 h2 =>
          EX.is (ex_op (ex_var h1) (ex_tup (eax_cons (ex_var h2) eax_nil) (by show 1 ≤ 100000; decide)) (rx_catT (by unfold iN; rw [List.length_map, List.length_map, List.length_singleton, pl1]; omega))) (by rw [ecat])
        refine sd_if (b := fitAt o wy (pl ++ [beginM pl + j])) ?_ (fun e => ?_) fun e => sd_next ?_
        · refine et_B (ex_call (ea_dat (EL.ex (EL.is (el_lc (pl ++ [beginM pl + j]) (fun k : Nat => .int (k : Int)) (fun _ => true) (fun k => .int (o.getD k 0)) [8] (IW.is (iw_tup (hcat _ rfl rfl)) (by unfold iN; rw [List.map_map]; rfl)) (fun j h => h) ?_ fun x hx => ⟨_, gd_name, et_yes, fun _ => ex_op (ex_var rfl) (ex_var rfl) (rx_ixT (atI_int ?_))⟩) (show _ = ((pl ++ [beginM pl + j]).map fun k => o.getD k 0).map PyData.int from ?_))) (ea_dat (ex_var rfl) ea_nil)) ⟨_, wy, rfl, ?_, ?_, by omega, rfl⟩)
          · rw [List.length_append, List.length_singleton, pl1]; omega
          · rcases List.mem_append.mp hx with h | h
            · exact pl2 x h
            · rw [List.mem_singleton.mp h]; omega
          · rw [List.filter_eq_self.mpr fun _ _ => rfl, List.map_map]
            rfl
          · rw [List.length_map, List.length_append, List.length_singleton]; omega
          · rw [List.length_map, List.length_append, List.length_singleton, pl1]; omega
        · refine sd_append rfl (hcat _ rfl rfl) ?_ ?_
          · rw [List.length_map, List.length_append]
            have := extP_len o wy pl j
            omega
          · refine ⟨.dat (.int ((beginM pl + j : Nat) : Int)), s8, ?_⟩
            rw [extP_yes e, ← List.append_assoc, List.map_append (l₂ := [_])]
            rfl
        · refine ⟨.dat (.int ((beginM pl + j : Nat) : Int)), s8, ?_⟩
          rw [extP_no e]
          rfl
      · rintro ρ' ⟨s7, s8, rfl⟩
        refine ⟨.dat (tN pl), .dat (.int (beginM pl : Int)), s7, s8, ?_⟩
        rw [tk, List.flatMap_append, List.flatMap_cons, List.flatMap_nil, List.append_nil]
        rfl
    · rintro ρ' ⟨s5, s6, s7, s8, rfl⟩
      rw [List.take_length]
      refine sd_freeze 4 rfl (sd_asg (EX.toS (ex_var rfl)) ?_)
      refine ⟨found.flatMap (extM o wy), _, _, s5, s6, s7, s8, rfl, ?_, by omega, ?_, ?_⟩
      · refine Nat.le_trans (flat_len _ 6 (fun a => Nat.le_trans (extM_len o wy a) h6) _) ?_
        rw [Nat.pow_succ]
        exact Nat.mul_le_mul_right 6 hl
      · intro q hq
        obtain ⟨pl, hp, hq⟩ := List.mem_flatMap.mp hq
        obtain ⟨pl1, pl2⟩ := hpl pl hp
        unfold extM at hq
        obtain ⟨x, hx, rfl⟩ := List.mem_map.mp hq
        have hx' := List.mem_range'_1.mp (List.mem_filter.mp hx).1
        refine ⟨by rw [List.length_append, List.length_singleton, pl1], fun y hy => ?_⟩
        rcases List.mem_append.mp hy with h | h
        · exact pl2 y h
        · rw [List.mem_singleton.mp h]
          have : beginM pl ≤ o.length := by
            unfold beginM
            split
            · omega
            · rename_i y hy
              have := pl2 y (List.mem_of_getLast? hy)
              omega
          omega
      · rw [← hg, show wy.length - i = (wy.length - (i + 1)) + 1 by omega]
        rfl
  · rintro ρ' ⟨found, s3, s4, s5, s6, s7, s8, rfl, hl, hiw, hpl, hg⟩
    rw [Nat.sub_self] at hg
    have hg : found = standM o wy := hg
    rw [← hg] at h
    exact sd_ret (ex_var rfl) h
def firstD : Option (List Nat) → PyData
  | none => .none
  | some l => tN l
def R_first_in (ss : List Sl) (P : PyData → Prop) : Prop := ∃ (o wy : List Int), ss = [.dat (tI o), .dat (tI wy)] ∧ o.length ≤ 6 ∧ wy.length ≤ 6 ∧ P (firstD (standM o wy).head?)
theorem cal_first_in (F : C8.Def K mg "first_in" sfirst_in f fd) (bd : Binds K fd ["order", "way"] []) (T : BI mg) (c_standings_in : C8.Cal P w K mg base 2 "standings_in" (spR K R_standings_in) []) : C8.Cal P w K mg base 3 "first_in" (spR K R_first_in) [] := by
  have sc := scfirst_in
  refine def_by F bd sc (by decide) (fun ss P h => by obtain ⟨p, _, rfl, _⟩ := h; rfl) fun cdv A outer s H E hr => ⟨_, (pss_cons (ps_set (i := 2) sc.nd rfl (.inl rfl) (C8.pe_c c_standings_in hr (by decide) (by rfl) (pa_cons (pv 0) (pa_cons (pv 1) pa_nil)))) (pss_one (ps_ret (pe_ifExp (pt_cmpR op_gt (pe_callB call_len_seq (by rfl) T.len (by decide +kernel) (pa_cons (pv 2) pa_nil)) pe_int (nomark _)) (pe_ix ix_list (pv 2) pe_int (fun _ _ => rfl)) pe_non)))), fun ss Pd h => ?_⟩
  obtain ⟨o, wy, rfl, h6, hw6, h⟩ := h
  refine sd_seq (sd_asg (EX.toS (ex_call (ea_dat (ex_var rfl) (ea_dat (ex_var rfl) ea_nil)) ⟨o, wy, rfl, h6, hw6, rfl⟩)) ?_)
  generalize standM o wy = st at h
  refine sd_ret (ex_if (b := decide (((st.map tN).length : Int) > 0)) (et_test (ex_op (ex_cb (eax_cons (ex_var rfl) eax_nil) rcx_lenL) ex_int rx_bl)) (fun e => ?_) fun e => ?_) h
  · cases st with
    | nil => exact nomatch e
    | cons l st => exact ex_op (ex_var rfl) ex_int (rx_ixL (x := ((0 : Nat) : Int)) (atI_map (k := 0) rfl))
  · cases st with
    | nil => exact ex_non
    | cons l st =>
      have := of_decide_eq_false e
      rw [List.map_cons, List.length_cons] at this
      omega
def R_way_in (ss : List Sl) (P : PyData → Prop) : Prop := ∃ (o : List Int) (ws : List (List Int)), ss = [.dat (tI o), .dat (.tuple (ws.map tI))] ∧ o.length ≤ 6 ∧ (∀ wy ∈ ws, wy.length ≤ 6) ∧ P (wayD (wayM o ws))
theorem cal_way_in (F : C8.Def K mg "way_in" sway_in f fd) (bd : Binds K fd ["order", "ways"] []) (T : BI mg) (c_first_in : C8.Cal P w K mg base 3 "first_in" (spR K R_first_in) []) : C8.Cal P w K mg base 4 "way_in" (spR K R_way_in) [] := by
  have sc := scway_in
  refine def_by F bd sc (by decide) (fun ss P h => by obtain ⟨p, _, rfl, _⟩ := h; rfl) fun cdv A outer s H E hr => ⟨_, (pss_cons (ps_for PassesOwn.never rfl (pi_tup (pv 1)) (pg_name (i := 2) sc.nd rfl (.inl rfl)) (pss_cons (ps_set (i := 3) sc.nd rfl (.inl rfl) (C8.pe_c c_first_in hr (by decide) (by rfl) (pa_cons (pv 0) (pa_cons (pv 2) pa_nil)))) (pss_one (ps_if (pt_cmpR op_notN (pv 3) pe_non (nomark _)) (pss_one (ps_ret (pe_tup (pa_cons (pv 2) (pa_cons (pv 3) pa_nil))))) pss_nil)))) (pss_one (ps_ret pe_non))), fun ss Pd h => ?_⟩
  obtain ⟨o, ws, rfl, h6, hws, h⟩ := h
  refine sd_seq (sd_forX ws tI (fun i ρ' => ∃ s2 s3, ρ' = [.dat (tI o), .dat (.tuple (ws.map tI)), s2, s3] ∧ wayM o (ws.drop i) = wayM o ws) (iw_tup (ex_var rfl)) ⟨.no, .no, rfl, rfl⟩ ?_ ?_)
  · rintro i wy ρ' hi hlt ⟨s2, s3, rfl, hg⟩
    rw [List.drop_eq_getElem_cons hlt, show ws[i] = wy from Option.some.inj ((List.getElem?_eq_getElem hlt).symm.trans hi)] at hg
    refine ⟨_, _, gd_name, ?_⟩
    refine sd_seq (sd_asg (EX.toS (ex_call (ea_dat (ex_var rfl) (ea_dat (ex_var rfl) ea_nil)) ⟨o, wy, rfl, h6, hws wy (List.mem_of_getElem? hi), rfl⟩)) ?_)
    rw [wayM_cons] at hg
    generalize (standM o wy).head? = st at hg
    refine sd_if (b := !isNoneD (firstD st)) (et_test (ex_op (ex_var rfl) ex_non rx_notN)) (fun e => ?_) fun e => sd_next ?_
    · cases st with
      | none => exact nomatch e
      | some l =>
        rw [← hg] at h
        exact sd_ret (ex_tup (eax_cons (ex_var rfl) (eax_cons (ex_var rfl) eax_nil)) (by show 2 ≤ 100000; decide)) h
    · cases st with
      | some l => exact nomatch e
      | none =>
        simp only at hg
        refine ⟨.dat (tI wy), .dat (firstD none), rfl, ?_⟩
        exact hg
  · rintro ρ' ⟨s2, s3, rfl, hg⟩
    rw [List.drop_length] at hg
    rw [← hg] at h
    exact sd_ret ex_non h
def R_is_free (ss : List Sl) (P : PyData → Prop) : Prop := ∃ d o, ss = [.dat d] ∧ (d = tI o ∨ d = lI o) ∧ o.length ≤ 6 ∧ isOrd o = true ∧ P (.bool (wayM o fourL).isNone)
theorem cal_is_free {aF : Addr} (F : C8.Def K mg "is_free" sis_free f fd) (bd : Binds K fd ["order"] []) (T : BI mg) (g_FOUR : ∃ u, mg "FOUR" = some u ∧ RelV (.ref aF) u) (r_FOUR : ∀ G, Rp K G (.ref aF) (.tuple (fourL.map tI)))
    (c_way_in : C8.Cal P w K mg base 4 "way_in" (spR K R_way_in) []) (c_told_order : C8.Cal P w K mg base 3 "told_order" (spR K R_want_order) []) : C8.Cal P w K mg base 5 "is_free" (spR K R_is_free) [] := by
  have sc := scis_free
  refine def_by F bd sc (by decide) (fun ss P h => by obtain ⟨p, _, rfl, _⟩ := h; rfl) fun cdv A outer s H E hr => ⟨_, (pss_one (ps_ret (pe_cmpR op_isN (C8.pe_c c_way_in hr (by decide) (by rfl) (pa_cons (C8.pe_c c_told_order hr (by decide) (by rfl) (pa_cons (pv 0) pa_nil)) (pa_cons (C8.pe_gc rfl g_FOUR) pa_nil))) pe_non (nomark _)))), fun ss Pd h => ?_⟩
  obtain ⟨d, o, rfl, hd, h6, ho, h⟩ := h
  refine sd_ret (EX.is (ex_op (ex_call (ea_dat (ex_call (ea_dat (ex_var rfl) ea_nil) ⟨d, o, rfl, hd, by omega, ho, rfl⟩) (ea_dat (ex_k r_FOUR) ea_nil)) ⟨o, fourL, rfl, h6, by decide, rfl⟩) ex_non rx_isN) ?_) h
  cases wayM o fourL with
  | none => rfl
  | some q => rfl
end
end Kd

/-! The program's beyond. -/
namespace Kd
open PySem PySem.Spec PyProof.Rows L2 Evl

def laidM (o : List Int) (l : List Nat) (r : List Int) : List Int := (l.zip r).foldl (fun f q => f.set q.1 ((isort (l.map fun k => o.getD k 0)).getD (q.2 - 1).toNat 0)) o
def besideM (wy : List Int) : List Int := if wy = [4, 2, 3, 1] then [3, 4, 1, 2] else if wy = [3, 5, 1, 4, 2] then [1, 4, 5, 2, 3] else if wy = [4, 2, 5, 1, 3] then [3, 4, 1, 2, 5] else [1, 4, 5, 2, 3, 6]
def paperM (o : List Int) : Option (List Int) := match wayM o fourL with
  | none => none
  | some (wy, l) => some (laidM o l (besideM wy))
def paperOk (o : List Int) : Bool := match wayM o fourL with
  | none => true
  | some (wy, l) => decide (l.length = wy.length) && l.all fun k => decide (k < o.length)
def paperD (o : List Int) : PyData := match wayM o fourL with
  | none => .none
  | some (wy, l) => .tuple [tI wy, tN l, tI (laidM o l (besideM wy))]
def optI : Option (List Int) → PyData
  | none => .none
  | some v => tI v
def bydB (o v : List Int) : Bool := isOrd v && (decide (v.length = o.length) && (laysB (boardM o) v && !lowB v o))
theorem wayM_mem {o : List Int} {wy : List Int} {l : List Nat} : ∀ {ws : List (List Int)}, wayM o ws = some (wy, l) → wy ∈ ws
  | [], h => nomatch h
  | a :: ws, h => by
    rw [wayM_cons] at h
    cases e : (standM o a).head? with
    | none =>
      rw [e] at h
      exact List.mem_cons_of_mem _ (wayM_mem h)
    | some q =>
      rw [e] at h
      cases Option.some.inj h
      exact List.mem_cons_self
theorem beside_ok : ∀ wy ∈ fourL, (besideM wy).length = wy.length ∧ wy.length ≤ 6 ∧ ∀ n ∈ besideM wy, 1 ≤ n ∧ n ≤ (wy.length : Int) := by decide
theorem boardM_len (o : List Int) : (boardM o).length = o.length := by
  unfold boardM
  rw [List.length_zip, List.length_reverse, loGo_len, hiGo_len, List.length_reverse, List.length_nil]
  omega
/-- what the dict BESIDE tells -/
structure HB (K : PySem.W.Frag) (xs : List (List Key × Addr × Addr)) : Prop where
  at' : ∀ wy ∈ fourL, ∃ p : Addr × Addr, ((xs.find? fun x => decide (x.1 = wy.map Sum.inl)).map (·.2)) = some p ∧ ∀ G, Rp K G (.ref p.2) (tI (besideM wy))

section
variable {P : Program} {w : World} {K : PySem.W.Frag} {mg : Str → Option Value} {base : Heap} {f : Addr} {fd : FuncData}
abbrev slaid_at : Stmt := topS 45
abbrev Nlaid_at : List Str := ["order", "places", "way", "things", "found", "place", "number"]
theorem sclaid_at : FnScope Nlaid_at ["order", "places", "way"] (C8.fnScope slaid_at) := C8.fnScope_by (by decide +kernel)
abbrev spaper_of : Stmt := topS 46
abbrev Npaper_of : List Str := ["order", "found", "way", "places"]
theorem scpaper_of : FnScope Npaper_of ["order"] (C8.fnScope spaper_of) := C8.fnScope_by (by decide +kernel)
abbrev sbeyond : Stmt := topS 47
abbrev Nbeyond : List Str := ["order", "paper"]
theorem scbeyond : FnScope Nbeyond ["order"] (C8.fnScope sbeyond) := C8.fnScope_by (by decide +kernel)
abbrev sis_beyond : Stmt := topS 48
abbrev Nis_beyond : List Str := ["order", "value", "whole"]
theorem scis_beyond : FnScope Nis_beyond ["order", "value"] (C8.fnScope sis_beyond) := C8.fnScope_by (by decide +kernel)
def R_laid_at (ss : List Sl) (P : PyData → Prop) : Prop := ∃ (o : List Int) (l : List Nat) (r : List Int), ss = [.dat (tI o), .dat (tN l), .dat (tI r)] ∧ o.length ≤ 62 ∧ l.length ≤ 62 ∧ l.length = r.length ∧ (∀ k ∈ l, k < o.length) ∧ (∀ n ∈ r, 1 ≤ n ∧ n ≤ (l.length : Int)) ∧ P (tI (laidM o l r))
theorem cal_laid_at (F : C8.Def K mg "laid_at" slaid_at f fd) (bd : Binds K fd ["order", "places", "way"] []) (T : BI mg) : C8.Cal P w K mg base 1 "laid_at" (spR K R_laid_at) [] := by
  have sc := sclaid_at
  refine def_by F bd sc (by decide) (fun ss P h => by obtain ⟨p, _, _, rfl, _⟩ := h; rfl) fun cdv A outer s H E hr => ⟨_, (pss_cons (ps_set (i := 3) sc.nd rfl (.inl rfl) (pe_callB cr_sorted (by rfl) T.sorted (by decide +kernel) (pa_cons (pe_lc (own := [("place", 5)]) rfl sc.nd (pi_tup (pv 1)) (blkOk_by (own := [("place", 5)]) (N := Nlaid_at) (sc := C8.fnScope slaid_at) (by decide +kernel)) (fun _ _ _ _ _ => (pg_name (i := 5) sc.nd rfl (.inl rfl))) (fun _ _ _ _ _ => pts_nil) (fun _ _ _ _ _ => (pe_ix (ix_tupK (K := K) rfl) (pv 0) (pv 5) (fun _ _ => rfl)))) pa_nil))) (pss_cons (ps_set (i := 4) sc.nd rfl (.inl rfl) (pe_callTy call_list_of (by rfl) T.list (by decide +kernel) (pa_cons (pv 0) pa_nil))) (pss_cons (ps_for PassesOwn.never rfl (RZ.pi_zipA (by rfl) T.zip (pa_cons (pv 1) (pa_cons (pv 2) pa_nil))) (pg_tup rfl (pgs_cons (pg_name (i := 5) sc.nd rfl (.inl rfl)) (pgs_cons (pg_name (i := 6) sc.nd rfl (.inl rfl)) pgs_nil))) (pss_one (ps_asg (pe_ix ix_list (pv 3) (pe_op op_sub (pv 6) pe_int) (fun _ _ => rfl)) (pg_sub (pv 4) (pv 5) set_list)))) (pss_one (ps_ret (pe_callTy call_tuple_of (by rfl) T.tuple (by decide +kernel) (pa_cons (pv 4) pa_nil))))))), fun ss Pd h => ?_⟩
  obtain ⟨o, l, r, rfl, h62, hl62, hlr, hl, hr', h⟩ := h
  refine sd_seq (sd_asg (EX.toS (EL.ex (el_cb (eax_cons (EL.ex (EL.is (el_lc l (fun k : Nat => .int (k : Int)) (fun _ => true) (fun k => .int (o.getD k 0)) [5] (IW.is (iw_tup (ex_var rfl)) (by unfold iN; rw [List.map_map]; rfl)) (fun j h => h) (by omega) fun x hx => ⟨_, gd_name, et_yes, fun _ => ex_op (ex_var rfl) (ex_var rfl) (rx_ixT (atI_int (hl x hx)))⟩)
    (show _ = (l.map fun k => o.getD k 0).map PyData.int from ?_))) eax_nil) (rcl_sorted ?_)))) ?_)
  · rw [List.filter_eq_self.mpr fun _ _ => rfl, List.map_map]
    rfl
  · rw [List.length_map]; omega
  have hth : (isort (l.map fun k => o.getD k 0)).length = l.length := by rw [isort_len, List.length_map]
  unfold laidM at h
  generalize isort (l.map fun k => o.getD k 0) = th at h hth
  refine sd_seq (sd_asg (EL.toS (el_cb (eax_cons (ex_var rfl) eax_nil) rcl_listT)) ?_)
  refine sd_seq (sd_forX (l.zip r) (fun q => .tuple [.int (q.1 : Int), .int q.2]) (fun i ρ' => ∃ found s5 s6, ρ' = [.dat (tI o), .dat (tN l), .dat (tI r), .dat (lI th), .own (found.map PyData.int), s5, s6] ∧ found.length = o.length ∧ ((l.zip r).drop i).foldl (fun f q => f.set q.1 (th.getD (q.2 - 1).toNat 0)) found = (l.zip r).foldl (fun f q => f.set q.1 (th.getD (q.2 - 1).toNat 0)) o)
    (IW.is (iw_zipT (eax_cons (ex_var rfl) (eax_cons (ex_var rfl) eax_nil))) ?_) ⟨o, .no, .no, rfl, rfl, rfl⟩ ?_ ?_)
  · unfold iN
    rw [List.map_map]
    exact zip_tups _ _ _ _
  · rintro i q ρ' hq hlt ⟨found, s5, s6, rfl, hf, hg⟩
    rw [List.drop_eq_getElem_cons hlt, show (l.zip r)[i] = q from Option.some.inj ((List.getElem?_eq_getElem hlt).symm.trans hq), List.foldl_cons] at hg
    have hm := List.of_mem_zip (List.mem_of_getElem? hq)
    have h1 := hl q.1 hm.1
    have h2 := hr' q.2 hm.2
    refine ⟨_, _, gd_tup (gds_cons gd_name (gds_cons gd_name gds_nil)) rfl, ?_⟩
    have e1 : q.2 - 1 = (((q.2 - 1).toNat : Nat) : Int) := by omega
    refine sd_setL (d := .int (th.getD (q.2 - 1).toNat 0)) (k := q.1) rfl (ex_op (ex_var rfl) (EX.is (ex_op (ex_var rfl) ex_int rx_int) (congrArg PyData.int e1)) (rx_ixL (atI_int (by omega)))) (ex_var rfl) (ixN_nat (by rw [List.length_map, hf]; exact h1)) ?_
    refine ⟨found.set q.1 (th.getD (q.2 - 1).toNat 0), .dat (.int (q.1 : Int)), .dat (.int q.2), ?_, by rw [List.length_set]; exact hf, hg⟩
    rw [List.map_set]
    rfl
  · rintro ρ' ⟨found, s5, s6, rfl, hf, hg⟩
    rw [List.drop_length, List.foldl_nil] at hg
    rw [← hg] at h
    exact sd_freeze 4 rfl (sd_ret (ex_cb (eax_cons (ex_var rfl) eax_nil) rcx_tupL) h)
def R_paper_of (ss : List Sl) (P : PyData → Prop) : Prop := ∃ (o : List Int), ss = [.dat (tI o)] ∧ o.length ≤ 6 ∧ paperOk o = true ∧ P (paperD o)
theorem cal_paper_of {aF aB : Addr} {xs : List (List Key × Addr × Addr)} (F : C8.Def K mg "paper_of" spaper_of f fd) (bd : Binds K fd ["order"] []) (T : BI mg) (g_FOUR : ∃ u, mg "FOUR" = some u ∧ RelV (.ref aF) u) (r_FOUR : ∀ G, Rp K G (.ref aF) (.tuple (fourL.map tI)))
    (g_BESIDE : ∃ u, mg "BESIDE" = some u ∧ RelV (.ref aB) u) (k_BESIDE : DK K aB xs) (hB : HB K xs) (c_way_in : C8.Cal P w K mg base 4 "way_in" (spR K R_way_in) []) (c_laid_at : C8.Cal P w K mg base 1 "laid_at" (spR K R_laid_at) []) : C8.Cal P w K mg base 5 "paper_of" (spR K R_paper_of) [] := by
  have sc := scpaper_of
  refine def_by F bd sc (by decide) (fun ss P h => by obtain ⟨p, rfl, _⟩ := h; rfl) fun cdv A outer s H E hr => ⟨_, (pss_cons (ps_set (i := 1) sc.nd rfl (.inl rfl) (C8.pe_c c_way_in hr (by decide) (by rfl) (pa_cons (pv 0) (pa_cons (C8.pe_gc rfl g_FOUR) pa_nil)))) (pss_cons (ps_if (pt_cmpR op_isN (pv 1) pe_non (nomark _)) (pss_one (ps_ret pe_non)) pss_nil) (pss_cons (ps_asg (pv 1) (pg_tup rfl (pgs_cons (pg_name (i := 2) sc.nd rfl (.inl rfl)) (pgs_cons (pg_name (i := 3) sc.nd rfl (.inl rfl)) pgs_nil)))) (pss_one (ps_ret (pe_tup (pa_cons (pv 2) (pa_cons (pv 3) (pa_cons (C8.pe_c c_laid_at hr (by decide) (by rfl) (pa_cons (pv 0) (pa_cons (pv 3) (pa_cons (pe_kget (hu_of hr) (C8.pe_gc rfl g_BESIDE) (pv 2) (fun _ _ => rfl) k_BESIDE) pa_nil)))) pa_nil))))))))), fun ss Pd h => ?_⟩
  obtain ⟨o, rfl, h6, hok, h⟩ := h
  refine sd_seq (sd_asg (EX.toS (ex_call (ea_dat (ex_var rfl) (ea_dat (ex_k r_FOUR) ea_nil)) ⟨o, fourL, rfl, h6, by decide, rfl⟩)) ?_)
  unfold paperD at h
  unfold paperOk at hok
  refine sd_seq (sd_if (b := isNoneD (wayD (wayM o fourL))) (et_test (ex_op (ex_var rfl) ex_non rx_isN)) (fun e => ?_) fun e => sd_next ?_)
  · cases hw : wayM o fourL with
    | none =>
      rw [hw] at h
      exact sd_ret ex_non h
    | some q =>
      rw [hw] at e
      exact nomatch e
  · cases hw : wayM o fourL with
    | none =>
      rw [hw] at e
      exact nomatch e
    | some q =>
      obtain ⟨wy, l⟩ := q
      rw [hw] at h hok
      simp only [Bool.and_eq_true, decide_eq_true_eq, List.all_eq_true] at hok
      have hm := wayM_mem hw
      obtain ⟨b1, b2, b3⟩ := beside_ok wy hm
      obtain ⟨p, hp1, hp2⟩ := hB.at' wy hm
      refine sd_seq (sd_tgt (d := .tuple [tI wy, tN l]) (ex_var rfl) (gd_tup (gds_cons gd_name (gds_cons gd_name gds_nil)) rfl) ?_)
      exact sd_ret (ex_tup (eax_cons (ex_var rfl) (eax_cons (ex_var rfl) (eax_cons (ex_call (ea_dat (ex_var rfl) (ea_dat (ex_var rfl) (ea_dat (ex_kget (ex_var rfl) hp1 hp2) ea_nil))) ⟨o, l, besideM wy, rfl, by omega, by omega, by rw [hok.1, b1], hok.2, by rw [hok.1]; exact b3, rfl⟩) eax_nil))) (by show 3 ≤ 100000; decide)) h
def R_beyond (ss : List Sl) (P : PyData → Prop) : Prop := ∃ (d : PyData) (o : List Int), ss = [.dat d] ∧ (d = tI o ∨ d = lI o) ∧ o.length ≤ 6 ∧ isOrd o = true ∧ paperOk o = true ∧ P (optI (paperM o))
theorem cal_beyond (F : C8.Def K mg "beyond" sbeyond f fd) (bd : Binds K fd ["order"] []) (T : BI mg) (c_paper_of : C8.Cal P w K mg base 5 "paper_of" (spR K R_paper_of) []) (c_told_order : C8.Cal P w K mg base 3 "told_order" (spR K R_want_order) []) : C8.Cal P w K mg base 6 "beyond" (spR K R_beyond) [] := by
  have sc := scbeyond
  refine def_by F bd sc (by decide) (fun ss P h => by obtain ⟨p, _, rfl, _⟩ := h; rfl) fun cdv A outer s H E hr => ⟨_, (pss_cons (ps_set (i := 1) sc.nd rfl (.inl rfl) (C8.pe_c c_paper_of hr (by decide) (by rfl) (pa_cons (C8.pe_c c_told_order hr (by decide) (by rfl) (pa_cons (pv 0) pa_nil)) pa_nil))) (pss_one (ps_ret (pe_ifExp (pt_cmpR op_isN (pv 1) pe_non (nomark _)) pe_non (pe_ix ix_tup (pv 1) pe_int (fun _ _ => rfl)))))), fun ss Pd h => ?_⟩
  obtain ⟨d, o, rfl, hd, h6, ho, hok, h⟩ := h
  refine sd_seq (sd_asg (EX.toS (ex_call (ea_dat (ex_call (ea_dat (ex_var rfl) ea_nil) ⟨d, o, rfl, hd, by omega, ho, rfl⟩) ea_nil) ⟨o, rfl, h6, hok, rfl⟩)) ?_)
  refine sd_ret (ex_if (b := isNoneD (paperD o)) (et_test (ex_op (ex_var rfl) ex_non rx_isN)) (fun e => ?_) fun e => ?_) h
  · unfold paperD at e
    unfold paperM
    cases hw : wayM o fourL with
    | none => exact ex_non
    | some q =>
      rw [hw] at e
      exact nomatch e
  · unfold paperD at e ⊢
    unfold paperM
    cases hw : wayM o fourL with
    | none =>
      rw [hw] at e
      exact nomatch e
    | some q => exact ex_op (ex_var rfl) ex_int (rx_ixT (x := ((2 : Nat) : Int)) (atI_nat rfl))
def R_is_beyond (ss : List Sl) (P : PyData → Prop) : Prop := ∃ (d : PyData) (o : List Int) (e : PyData), ss = [.dat d, .dat e] ∧ (d = tI o ∨ d = lI o) ∧ o.length ≤ 62 ∧ isOrd o = true ∧ brdB (boardM o) = true ∧ ((∃ v, (e = tI v ∨ e = lI v) ∧ v.length ≤ 62 ∧ P (.bool (bydB o v))) ∨ (isSeq e = false ∧ P (.bool false)))
theorem fn_is_beyond (F : C8.Def K mg "is_beyond" sis_beyond f fd) (T : BI mg) (c_is_below : C8.Cal P w K mg base 5 "is_below" (spR K R_is_below) []) (c_is_laying : C8.Cal P w K mg base 5 "is_laying" (spR K R_is_laying) []) (c_board_of : C8.Cal P w K mg base 4 "board_of" (spR K R_board_of) [])
    (c_is_order : C8.Cal P w K mg base 2 "is_order" (spR K R_is_order) []) (c_told_order : C8.Cal P w K mg base 3 "told_order" (spR K R_want_order) []) : FnOk P w K mg base C8.CX0 6 f fd ["order", "value"] (spR K R_is_beyond) := by
  have sc := scis_beyond
  refine def_fn F sc (by decide) (fun ss P h => by obtain ⟨p, _, _, rfl, _⟩ := h; rfl) fun cdv A outer s H E hr => ⟨_, (pss_cons (ps_set (i := 2) sc.nd rfl (.inl rfl) (C8.pe_c c_told_order hr (by decide) (by rfl) (pa_cons (pv 0) pa_nil))) (pss_cons (ps_if (PW.pt (pw_or (pt_not (pt_val (C8.pe_c c_is_order hr (by decide) (by rfl) (pa_cons (pv 1) pa_nil)))) (pw_or1 (pt_cmpR op_ne (pe_callB call_len_seq (by rfl) T.len (by decide +kernel) (pa_cons (pv 1) pa_nil)) (pe_callB call_len_seq (by rfl) T.len (by decide +kernel) (pa_cons (pv 2) pa_nil)) (nomark _))))) (pss_one (ps_ret pe_bl)) pss_nil) (pss_one (ps_ret (pe_and (C8.pe_c c_is_laying hr (by decide) (by rfl) (pa_cons (C8.pe_c c_board_of hr (by decide) (by rfl) (pa_cons (pv 2) pa_nil)) (pa_cons (pv 1) pa_nil))) (pe_one (pe_not (C8.pe_c c_is_below hr (by decide) (by rfl) (pa_cons (pv 1) (pa_cons (pv 2) pa_nil)))))))))), fun ss Pd h => ?_⟩
  obtain ⟨d, o, e, rfl, hd, h62, ho, hb, h⟩ := h
  refine sd_seq (sd_asg (EX.toS (ex_call (ea_dat (ex_var rfl) ea_nil) ⟨d, o, rfl, hd, by omega, ho, rfl⟩)) ?_)
  rcases h with ⟨v, he, hv, h⟩ | ⟨hs, h⟩
  · refine sd_seq (sd_if (b := !(isOrd v && decide (v.length = o.length))) ?_ (fun z => sd_ret ex_bl ?_) fun z => sd_next ?_)
    · refine ET.is (et_or (et_not (et_B (ex_call (ea_dat (ex_var rfl) ea_nil) ⟨e, rfl, .inl ⟨v, he, by omega, rfl⟩⟩))) fun _ => et_test (ex_op (ex_cb (eax_cons (ex_var rfl) eax_nil) (rcx_lenI he)) (ex_cb (eax_cons (ex_var rfl) eax_nil) (rcx_lenI (.inl rfl))) rx_neI)) ?_
      have : decide ((v.length : Int) = (o.length : Int)) = decide (v.length = o.length) := decide_eq_decide.mpr (by omega)
      rw [this]
      cases isOrd v <;> cases decide (v.length = o.length) <;> rfl
    · have e1 : bydB o v = false := by
        unfold bydB
        cases h1 : isOrd v <;> cases h2 : decide (v.length = o.length) <;> rw [h1, h2] at z <;> first | rfl | exact nomatch z
      rw [e1] at h
      exact h
    · obtain ⟨hv1, hv2⟩ : isOrd v = true ∧ decide (v.length = o.length) = true := by
        cases h1 : isOrd v <;> cases h2 : decide (v.length = o.length) <;> rw [h1, h2] at z <;> first | exact ⟨rfl, rfl⟩ | exact nomatch z
      have hl := of_decide_eq_true hv2
      refine sd_ret (EX.is (ex_andV (ex_call (ea_dat (ex_call (ea_dat (ex_var rfl) ea_nil) ⟨_, o, rfl, .inl rfl, by omega, ho, rfl⟩) (ea_dat (ex_var rfl) ea_nil)) ⟨boardM o, e, v, rfl, he, by omega, hv1, hb, by rw [boardM_len, hl], rfl⟩) fun _ => ex_notV (ex_call (ea_dat (ex_var rfl) (ea_dat (ex_var rfl) ea_nil)) ⟨e, _, v, o, rfl, he, .inl rfl, hv, hv1, ho, hl, rfl⟩)) ?_) h
      unfold bydB
      rw [hv1, hv2]
      rfl
  · refine sd_seq (sd_if (b := true) ?_ (fun _ => sd_ret ex_bl h) fun z => nomatch z)
    exact ET.is (et_or (c := true) (et_not (et_B (ex_call (ea_dat (ex_var rfl) ea_nil) ⟨e, rfl, .inr ⟨hs, rfl⟩⟩))) fun z => nomatch z) rfl
theorem cal_is_beyond (F : C8.Def K mg "is_beyond" sis_beyond f fd) (bd : Binds K fd ["order", "value"] []) (T : BI mg) (c_is_below : C8.Cal P w K mg base 5 "is_below" (spR K R_is_below) []) (c_is_laying : C8.Cal P w K mg base 5 "is_laying" (spR K R_is_laying) []) (c_board_of : C8.Cal P w K mg base 4 "board_of" (spR K R_board_of) [])
    (c_is_order : C8.Cal P w K mg base 2 "is_order" (spR K R_is_order) []) (c_told_order : C8.Cal P w K mg base 3 "told_order" (spR K R_want_order) []) : C8.Cal P w K mg base 6 "is_beyond" (spR K R_is_beyond) [] :=
  ⟨f, fd, _, [], fn_is_beyond F T c_is_below c_is_laying c_board_of c_is_order c_told_order, F.mgf, F.kp, bd, .nil⟩
end
end Kd

/-! The program's layings. -/
namespace Kd
open PySem PySem.Spec PyProof.Rows L2 Evl

def bitM (t : Int) : Int := 1 * 2 ^ (t - 1).toNat
def freeM (p : Int × Int) (lot : Int) : List Int := ((List.range (p.2 + 1 - p.1).toNat).map fun i : Nat => p.1 + (i : Int)).filter fun t => Builtin.bitAnd lot (bitM t) != 0
def sizeGo : Nat → Nat → Nat
  | 0, _ => 0
  | f + 1, n => n % 2 + sizeGo f (n / 2)
def sizeM (n : Nat) : Nat := sizeGo n n
theorem sizeGo_le : ∀ (f n : Nat) (k : Nat), n < 2 ^ k → sizeGo f n ≤ k
  | 0, _, _, _ => Nat.zero_le _
  | f + 1, n, 0, h => by
    have e : n = 0 := by
      rw [Nat.pow_zero] at h
      omega
    subst e
    have := sizeGo_le f 0 0 (by decide)
    show 0 % 2 + sizeGo f (0 / 2) ≤ 0
    rw [show 0 / 2 = 0 from rfl]
    omega
  | f + 1, n, k + 1, h => by
    have := sizeGo_le f (n / 2) k (by rw [Nat.pow_succ] at h; omega)
    show n % 2 + sizeGo f (n / 2) ≤ k + 1
    omega
def lotsM (n : Nat) : List (List Nat) := (List.range (n + 1)).map fun s => (List.range' 0 (2 ^ n)).filter fun l => sizeM l == s
abbrev lotD (l : List Nat) : PyData := .list (l.map fun n : Nat => .int (n : Int))
abbrev Tab := List ((Int × Int) × Int)
def keyL (a b : Int) : List Key := [.inl a, .inl b]
def tabK (t : Tab) : List (List Key) := t.map fun e => keyL e.1.1 e.1.2
def tabD (t : Tab) : List PyData := t.map fun e => .int e.2
def lookT (t : Tab) (k : Int × Int) : Option Int := (t.find? fun e => decide (e.1 = k)).map (·.2)
theorem key_eq (a b x y : Int) : decide (keyL a b = keyL x y) = decide ((a, b) = (x, y)) := by
  refine decide_eq_decide.mpr ⟨fun h => ?_, fun h => ?_⟩
  · unfold keyL at h
    injection h with h1 h2
    injection h2 with h2 _
    injection h1 with h1
    injection h2 with h2
    rw [h1, h2]
  · injection h with h1 h2
    rw [h1, h2]
theorem tab_at (a b : Int) : ∀ t : Tab, dictAt (tabK t) (tabD t) (keyL a b) = (lookT t (a, b)).map PyData.int
  | [] => rfl
  | e :: t => by
    have ih := tab_at a b t
    unfold dictAt lookT at ih ⊢
    unfold tabK tabD at ih ⊢
    rw [List.map_cons, List.map_cons, List.zip_cons_cons, List.find?_cons, List.find?_cons]
    show Option.map _ (match decide (keyL e.1.1 e.1.2 = keyL a b) with | true => _ | false => _) = _
    rw [key_eq]
    cases decide ((e.1.1, e.1.2) = (a, b)) with
    | true => rfl
    | false => exact ih
theorem tab_has (a b : Int) : ∀ t : Tab, hasK (tabK t) (keyL a b) = (lookT t (a, b)).isSome
  | [] => rfl
  | e :: t => by
    have ih := tab_has a b t
    unfold hasK lookT at ih ⊢
    unfold tabK at ih ⊢
    rw [List.map_cons, List.any_cons, List.find?_cons, key_eq]
    show (decide ((e.1.1, e.1.2) = (a, b)) || _) = Option.isSome (Option.map _ (match decide ((e.1.1, e.1.2) = (a, b)) with | true => _ | false => _))
    cases decide ((e.1.1, e.1.2) = (a, b)) with
    | true => rfl
    | false => exact ih
def oneLot (b : List (Int × Int)) (place lot : Nat) (t : Tab) : Option Tab :=
  if ((freeM (b.getD place (0, 0)) (lot : Int)).all fun th => (lookT t ((place : Int) + 1, (lot : Int) - bitM th)).isSome) && !(lookT t ((place : Int), (lot : Int))).isSome then
    some (t ++ [(((place : Int), (lot : Int)), ((freeM (b.getD place (0, 0)) (lot : Int)).map fun th => (lookT t ((place : Int) + 1, (lot : Int) - bitM th)).getD 0).sum)]) else none
def rowGo (b : List (Int × Int)) (place : Nat) : List Nat → Tab → Option Tab
  | [], t => some t
  | lot :: ls, t => (oneLot b place lot t).bind (rowGo b place ls)
def waysGo (b : List (Int × Int)) (n : Nat) : Nat → Tab → Option Tab
  | 0, t => some t
  | k + 1, t => (rowGo b k ((lotsM n).getD (n - k) []) t).bind (waysGo b n k)
def waysM (b : List (Int × Int)) : Option Tab := waysGo b b.length b.length [(((b.length : Int), 0), 1)]
def allM (n : Nat) : Int := 1 * 2 ^ (n : Int).toNat - 1
theorem oneLot_len {b : List (Int × Int)} {place lot : Nat} {t t' : Tab} (h : oneLot b place lot t = some t') : t'.length = t.length + 1 := by
  unfold oneLot at h
  split at h
  · cases Option.some.inj h
    rw [List.length_append]
    rfl
  · exact nomatch h
theorem rowGo_len {b : List (Int × Int)} {place : Nat} : ∀ {ls : List Nat} {t t' : Tab}, rowGo b place ls t = some t' → t.length ≤ t'.length
  | [], t, t', h => by cases Option.some.inj h; exact Nat.le_refl _
  | lot :: ls, t, t', h => by
    unfold rowGo at h
    cases e : oneLot b place lot t with
    | none =>
      rw [e] at h
      exact nomatch h
    | some u =>
      rw [e] at h
      have h1 := oneLot_len e
      have h2 := rowGo_len (ls := ls) (t := u) (t' := t') h
      omega
theorem waysGo_len {b : List (Int × Int)} {n : Nat} : ∀ {k : Nat} {t t' : Tab}, waysGo b n k t = some t' → t.length ≤ t'.length
  | 0, t, t', h => by cases Option.some.inj h; exact Nat.le_refl _
  | k + 1, t, t', h => by
    unfold waysGo at h
    cases e : rowGo b k ((lotsM n).getD (n - k) []) t with
    | none =>
      rw [e] at h
      exact nomatch h
    | some u =>
      rw [e] at h
      have h1 := rowGo_len e
      have h2 := waysGo_len (k := k) (t := u) (t' := t') h
      omega

section
variable {P : Program} {w : World} {K : PySem.W.Frag} {mg : Str → Option Value} {base : Heap} {f : Addr} {fd : FuncData} {ρ : Rho} {te : TE} {i : Nat} {E : DE}
theorem sd_aug {g : Int → Int → Int} {a b : Int} (hi : ρ[i]? = some (.dat (.int a))) (h : EX K te ρ (.int b)) (k : E.nx (ρ.set i (.dat (.int (g a b))))) : SD K (tAug i te (ipI g)) ρ E := fun m G0 H0 G σ H D S O => by
  obtain ⟨v, h1, h2⟩ := S.sl i _ hi
  cases h2
  refine ⟨_, join_some h1, h m G0 H0 G σ H S _ fun u G2 H2 x r => ?_⟩
  cases r
  exact ⟨a, b, rfl, rfl, O.nx _ _ _ _ ((S.step x).setD i (.int _)) k⟩
abbrev sbit_of : Stmt := topS 50
abbrev Nbit_of : List Str := ["thing"]
theorem scbit_of : FnScope Nbit_of ["thing"] (C8.fnScope sbit_of) := C8.fnScope_by (by decide +kernel)
abbrev sfree_in : Stmt := topS 51
abbrev Nfree_in : List Str := ["stretch", "free", "low", "high", "thing"]
theorem scfree_in : FnScope Nfree_in ["stretch", "free"] (C8.fnScope sfree_in) := C8.fnScope_by (by decide +kernel)
abbrev ssize_of : Stmt := topS 52
abbrev Nsize_of : List Str := ["lot", "found"]
theorem scsize_of : FnScope Nsize_of ["lot"] (C8.fnScope ssize_of) := C8.fnScope_by (by decide +kernel)
abbrev slots_of : Stmt := topS 53
abbrev Nlots_of : List Str := ["many", "found", "lot", "size"]
theorem sclots_of : FnScope Nlots_of ["many"] (C8.fnScope slots_of) := C8.fnScope_by (by decide +kernel)
abbrev sways_left : Stmt := topS 54
abbrev Nways_left : List Str := ["board", "many", "lots", "found", "place", "lot", "ways", "thing"]
theorem scways_left : FnScope Nways_left ["board"] (C8.fnScope sways_left) := C8.fnScope_by (by decide +kernel)
abbrev sall_things : Stmt := topS 55
abbrev Nall_things : List Str := ["board"]
theorem scall_things : FnScope Nall_things ["board"] (C8.fnScope sall_things) := C8.fnScope_by (by decide +kernel)
abbrev show_many : Stmt := topS 56
abbrev Nhow_many : List Str := ["board", "stretches"]
theorem schow_many : FnScope Nhow_many ["board"] (C8.fnScope show_many) := C8.fnScope_by (by decide +kernel)
def R_bit_of (ss : List Sl) (P : PyData → Prop) : Prop := ∃ t : Int, ss = [.dat (.int t)] ∧ 1 ≤ t ∧ t ≤ 62 ∧ P (.int (bitM t))
theorem cal_bit_of (F : C8.Def K mg "bit_of" sbit_of f fd) (bd : Binds K fd ["thing"] []) (T : BI mg) : C8.Cal P w K mg base 1 "bit_of" (spR K R_bit_of) [] := by
  have sc := scbit_of
  refine def_by F bd sc (by decide) (fun ss P h => by obtain ⟨p, rfl, _⟩ := h; rfl) fun cdv A outer s H E hr => ⟨_, (pss_one (ps_ret (pe_op op_shl pe_int (pe_op op_sub (pv 0) pe_int)))), fun ss Pd h => ?_⟩
  obtain ⟨t, rfl, h1, h2, h⟩ := h
  exact sd_ret (ex_op ex_int (ex_op (ex_var rfl) ex_int rx_int) (rx_intC ⟨by omega, by omega, by decide⟩)) h
def R_free_in (ss : List Sl) (P : PyData → Prop) : Prop := ∃ (p : Int × Int) (lot : Int), ss = [.dat (pI p), .dat (.int lot)] ∧ (1 ≤ p.1 ∧ p.1 ≤ 62) ∧ (0 ≤ p.2 ∧ p.2 ≤ 62) ∧ P (lI (freeM p lot))
theorem cal_free_in (F : C8.Def K mg "free_in" sfree_in f fd) (bd : Binds K fd ["stretch", "free"] []) (T : BI mg) (c_bit_of : C8.Cal P w K mg base 1 "bit_of" (spR K R_bit_of) []) : C8.Cal P w K mg base 2 "free_in" (spR K R_free_in) [] := by
  have sc := scfree_in
  refine def_by F bd sc (by decide) (fun ss P h => by obtain ⟨p, _, rfl, _⟩ := h; rfl) fun cdv A outer s H E hr => ⟨_, (pss_cons (ps_asg (pv 0) (pg_tup rfl (pgs_cons (pg_name (i := 2) sc.nd rfl (.inl rfl)) (pgs_cons (pg_name (i := 3) sc.nd rfl (.inl rfl)) pgs_nil)))) (pss_one (ps_ret (pe_lc (own := [("thing", 4)]) rfl sc.nd (pi_range2 (by rfl) T.range (pa_cons (pv 2) (pa_cons (pe_op op_add (pv 3) pe_int) pa_nil))) (blkOk_by (own := [("thing", 4)]) (N := Nfree_in) (sc := C8.fnScope sfree_in) (by decide +kernel)) (fun _ _ _ _ _ => (pg_name (i := 4) sc.nd rfl (.inl rfl))) (fun _ _ _ _ _ => (pts_one (pt_truthK (K := K) rfl (pe_op op_and (pv 1) (C8.pe_c c_bit_of hr (by decide) (by rfl) (pa_cons (pv 4) pa_nil))) (fun _ => rfl)))) (fun _ _ _ _ _ => (pv 4)))))), fun ss Pd h => ?_⟩
  obtain ⟨p, lot, rfl, h1, h2, h⟩ := h
  refine sd_seq (sd_tgt (ex_var rfl) (gd_tup (gds_cons gd_name (gds_cons gd_name gds_nil)) rfl) ?_)
  refine sd_ret (EL.ex (EL.is (el_lc ((List.range (p.2 + 1 - p.1).toNat).map fun i : Nat => p.1 + (i : Int)) PyData.int (fun t => Builtin.bitAnd lot (bitM t) != 0) PyData.int [4] (?w) (fun j h => h) ?_ fun t ht => ⟨_, gd_name, et_int (ex_op (ex_var rfl) (ex_call (ea_dat (ex_var rfl) ea_nil) ⟨t, rfl, ?_, ?_, rfl⟩) rx_int), fun _ => ex_var rfl⟩) rfl)) h
  case w =>
    refine IW.is (iw_rng2 (eax_cons (ex_var rfl) (eax_cons (ex_op (ex_var rfl) ex_int rx_int) eax_nil)) (by omega)) ?_
    unfold rngD
    rw [List.map_map]
    rfl
  · rw [List.length_map, List.length_range]; omega
  · obtain ⟨i, hi, rfl⟩ := List.mem_map.mp ht
    have := List.mem_range.mp hi
    omega
  · obtain ⟨i, hi, rfl⟩ := List.mem_map.mp ht
    have := List.mem_range.mp hi
    omega
def R_size_of (ss : List Sl) (P : PyData → Prop) : Prop := ∃ n : Nat, ss = [.dat (.int (n : Int))] ∧ P (.int (sizeM n : Int))
theorem cal_size_of (F : C8.Def K mg "size_of" ssize_of f fd) (bd : Binds K fd ["lot"] []) (T : BI mg) : C8.Cal P w K mg base 1 "size_of" (spR K R_size_of) [] := by
  have sc := scsize_of
  refine def_by F bd sc (by decide) (fun ss P h => by obtain ⟨p, rfl, _⟩ := h; rfl) fun cdv A outer s H E hr => ⟨_, (pss_cons (ps_set (i := 1) sc.nd rfl (.inl rfl) pe_int) (pss_cons (ps_while PassesOwn.never (pt_cmpR op_gt (pv 0) pe_int (nomark _)) (pss_cons (ps_aug (i := 1) sc.nd rfl (.inl rfl) (pe_op op_mod (pv 0) pe_int) ip_add) (pss_one (ps_set (i := 0) sc.nd rfl (.inl rfl) (pe_op op_fdiv (pv 0) pe_int))))) (pss_one (ps_ret (pv 1))))), fun ss Pd h => ?_⟩
  obtain ⟨n, rfl, h⟩ := h
  refine sd_seq (sd_asg (EX.toS ex_int) ?_)
  refine sd_seq (sd_while (fun k ρ' => ∃ (l a : Nat), ρ' = [.dat (.int (l : Int)), .dat (.int (a : Int))] ∧ k = l ∧ ∃ f, l ≤ f ∧ a + sizeGo f l = sizeM n) n ⟨n, 0, rfl, rfl, n, Nat.le_refl _, Nat.zero_add _⟩ ?_)
  rintro k ρ' ⟨l, a, rfl, rfl, f, hf, hs⟩
  refine ⟨decide ((k : Int) > 0), et_test (ex_op (ex_var rfl) ex_int rx_bl), fun e => ?_, fun e => ?_⟩
  · have hl := of_decide_eq_true e
    have m2 : ((k : Int) % 2) = ((k % 2 : Nat) : Int) := by omega
    have d2 : ((k : Int) / 2) = ((k / 2 : Nat) : Int) := by omega
    refine sd_seq (sd_aug rfl (ex_op (ex_var rfl) ex_int (rx_intC (by decide))) ?_)
    refine sd_asg (EX.toS (ex_op (ex_var rfl) ex_int (rx_intC (by exact ⟨by decide, by decide⟩)))) ?_
    refine ⟨k / 2, by omega, k / 2, a + k % 2, ?_, rfl, ?_⟩
    · rw [d2, m2]
      rfl
    · cases f with
      | zero => omega
      | succ f =>
        refine ⟨f, by omega, ?_⟩
        rw [← hs]
        show a + k % 2 + sizeGo f (k / 2) = a + (k % 2 + sizeGo f (k / 2))
        omega
  · have hl : k = 0 := by
      have := of_decide_eq_false e
      omega
    subst hl
    have z : ∀ f, sizeGo f 0 = 0 := fun f => by
      induction f with
      | zero => rfl
      | succ f ih =>
        show 0 % 2 + sizeGo f (0 / 2) = 0
        rw [show 0 / 2 = 0 from rfl, ih]
    rw [z, Nat.add_zero] at hs
    rw [← hs] at h
    exact sd_ret (ex_var rfl) h
def R_lots_of (ss : List Sl) (P : PyData → Prop) : Prop := ∃ n : Nat, ss = [.dat (.int (n : Int))] ∧ n ≤ 9 ∧ P (.list ((lotsM n).map lotD))
theorem cal_lots_of (F : C8.Def K mg "lots_of" slots_of f fd) (bd : Binds K fd ["many"] []) (T : BI mg) (c_size_of : C8.Cal P w K mg base 1 "size_of" (spR K R_size_of) []) : C8.Cal P w K mg base 2 "lots_of" (spR K R_lots_of) [] := by
  have sc := sclots_of
  refine def_by F bd sc (by decide) (fun ss P h => by obtain ⟨p, rfl, _⟩ := h; rfl) fun cdv A outer s H E hr => ⟨_, (pss_cons (ps_setLc (i := 1) (own := [("size", 3)]) rfl sc.nd rfl rfl (sw_true rfl rfl rfl (by decide +kernel)) (pi_range1 (by rfl) T.range (pa_cons (pe_op op_add (pv 0) pe_int) pa_nil)) (blkOk_by (own := [("size", 3)]) (N := Nlots_of) (sc := C8.fnScope slots_of) (by decide +kernel)) (fun _ _ _ _ _ => (pg_name (i := 3) sc.nd rfl (.inl rfl))) (fun _ _ _ _ _ => pts_nil) (fun _ _ _ _ _ => (pe_lst pa_nil))) (pss_cons (ps_for PassesOwn.never rfl (pi_range1 (by rfl) T.range (pa_cons (pe_op op_shl pe_int (pv 0)) pa_nil)) (pg_name (i := 2) sc.nd rfl (.inl rfl)) (pss_one (ps_expr (pe_bm PySem.F.plainAttrs_list PySem.F.slot_list_append PySem.F.type_list_append mt_append (pe_ix ix_list (pv 1) (C8.pe_c c_size_of hr (by decide) (by rfl) (pa_cons (pv 2) pa_nil)) (fun _ _ => rfl)) (pa_cons (pv 2) pa_nil))))) (pss_one (ps_ret (pv 1))))), fun ss Pd h => ?_⟩
  obtain ⟨n, rfl, h9, h⟩ := h
  have h512 : 2 ^ n ≤ 512 := Nat.le_trans (Nat.pow_le_pow_right (by decide) h9) (by decide)
  refine sd_lots (js := [3]) (List.range' 0 (n + 1)) (fun k : Nat => .int (k : Int)) (List.range' 0 (2 ^ n)) sizeM (.int (n : Int)) (iw_rn1 (EX.is (ex_op (ex_var rfl) ex_int rx_int) (by rw [Int.natCast_add]; rfl)) (by omega)) (fun j h => h) (by rw [List.length_range']; omega) (fun x hx => ⟨_, gd_name⟩)
    (fun s1 => iw_rn1 (n := 2 ^ n) (EX.is (ex_op ex_int (ex_var rfl) (rx_intC ⟨by omega, by omega, by decide⟩)) ?_) (by omega)) (fun l hl s1 s3 => ex_call (ea_dat (ex_var rfl) ea_nil) ⟨l, rfl, rfl⟩) (fun l hl => ?_) (by rw [List.length_range']; omega) ?_
  · rw [Int.toNat_natCast, Int.one_mul, Int.natCast_pow]
    rfl
  · have := (List.mem_range'_1.mp hl).2
    rw [List.length_range']
    have := sizeGo_le l l n (by omega)
    unfold sizeM
    omega
  · rw [List.length_range']
    unfold lotsM at h
    rw [List.map_map] at h
    exact h
def brdOk (ps : List (Int × Int)) : Bool := ps.all fun p => decide (1 ≤ p.1) && (decide (p.1 ≤ 62) && (decide (0 ≤ p.2) && decide (p.2 ≤ 62)))
def R_ways_left (ss : List Sl) (P : PyData → Prop) : Prop := ∃ (ps : List (Int × Int)) (T : Tab), ss = [.dat (lP ps)] ∧ ps.length ≤ 9 ∧ brdOk ps = true ∧ waysM ps = some T ∧ T.length ≤ 10000 ∧ P (.dict (((tabK T).map kT).zip (tabD T)))
theorem tab_len (t : Tab) : (tabK t).length = t.length ∧ (tabD t).length = t.length := ⟨by unfold tabK; rw [List.length_map], by unfold tabD; rw [List.length_map]⟩
theorem cal_ways_left (F : C8.Def K mg "ways_left" sways_left f fd) (bd : Binds K fd ["board"] []) (B : BI mg) (c_free_in : C8.Cal P w K mg base 2 "free_in" (spR K R_free_in) []) (c_bit_of : C8.Cal P w K mg base 1 "bit_of" (spR K R_bit_of) [])
    (c_lots_of : C8.Cal P w K mg base 2 "lots_of" (spR K R_lots_of) []) : C8.Cal P w K mg base 3 "ways_left" (spR K R_ways_left) [] := by
  have sc := scways_left
  have T := B
  refine def_by F bd sc (by decide) (fun ss P h => by obtain ⟨p, _, rfl, _⟩ := h; rfl) fun cdv A outer s H E hr => ⟨_, (pss_cons (ps_set (i := 1) sc.nd rfl (.inl rfl) (pe_callB call_len_seq (by rfl) T.len (by decide +kernel) (pa_cons (pv 0) pa_nil))) (pss_cons (ps_asg (pe_tup (pa_cons (C8.pe_c c_lots_of hr (by decide) (by rfl) (pa_cons (pv 1) pa_nil)) (pa_cons (pe_dispT1 (hu_of hr) (pe_tup (pa_cons (pv 1) (pa_cons pe_int pa_nil))) pe_int) pa_nil))) (pg_tup rfl (pgs_cons (pg_name (i := 2) sc.nd rfl (.inl rfl)) (pgs_cons (pg_name (i := 3) sc.nd rfl (.inr rfl)) pgs_nil)))) (pss_cons (ps_for PassesOwn.never rfl (pi_range3 (by rfl) T.range (pa_cons (pe_op op_sub (pv 1) pe_int) (pa_cons (pe_un un_neg pe_int) (pa_cons (pe_un un_neg pe_int) pa_nil)))) (pg_name (i := 4) sc.nd rfl (.inr rfl)) (pss_one (ps_for PassesOwn.never rfl (pi_list (pe_ix ix_list (pv 2) (pe_op op_sub (pv 1) (pv 4)) (fun _ _ => rfl))) (pg_name (i := 5) sc.nd rfl (.inr rfl)) (pss_cons (ps_setLc (i := 6) (own := [("thing", 7)]) rfl sc.nd rfl rfl (sw_true rfl rfl rfl (by decide +kernel)) (pi_list (C8.pe_c c_free_in hr (by decide) (by rfl) (pa_cons (pe_ix ix_list (pv 0) (pv 4) (fun _ _ => rfl)) (pa_cons (pv 5) pa_nil)))) (blkOk_by (own := [("thing", 7)]) (N := Nways_left) (sc := C8.fnScope sways_left) (by decide +kernel)) (fun _ _ _ _ _ => (pg_name (i := 7) sc.nd rfl (.inl rfl))) (fun _ _ _ _ _ => pts_nil) (fun _ _ _ _ _ => (pe_dget (hu_of hr) (pv 3) (pe_tup (pa_cons (pe_op op_add (pv 4) pe_int) (pa_cons (pe_op op_sub (pv 5) (C8.pe_c c_bit_of hr (by decide) (by rfl) (pa_cons (pv 7) pa_nil))) pa_nil))) (fun _ _ => rfl)))) (pss_one (ps_dput (hu_of hr) (pv 3) (pe_tup (pa_cons (pv 4) (pa_cons (pv 5) pa_nil))) (pe_callB (cr_sum rfl) (by rfl) T.sum (by decide +kernel) (pa_cons (pv 6) pa_nil)) rfl)))))) (pss_one (ps_ret (pv 3)))))), fun ss Pd h => ?_⟩
  clear T
  obtain ⟨ps, T, rfl, h9, hok, hT, hTl, h⟩ := h
  have hp : ∀ p ∈ ps, (1 ≤ p.1 ∧ p.1 ≤ 62) ∧ (0 ≤ p.2 ∧ p.2 ≤ 62) := fun p hp => by
    have := List.all_eq_true.mp hok p hp
    simp only [Bool.and_eq_true, decide_eq_true_eq] at this
    omega
  refine sd_seq (sd_asg (EX.toS (EX.is (ex_cb (eax_cons (ex_var rfl) eax_nil) rcx_lenL) (show _ = PyData.int (ps.length : Int) by rw [List.length_map]))) ?_)
  refine sd_seq (sd_parT (EX.toS (ex_call (ea_dat (ex_var rfl) ea_nil) ⟨ps.length, rfl, h9, rfl⟩)) (es_dispT1 (k := keyL (ps.length : Int) 0) (ex_tupt (eax_cons (ex_var rfl) (eax_cons ex_int eax_nil)) (by show 2 ≤ 100000; decide)) ex_int) ?_)
  refine sd_seq (sd_forX (List.range ps.length) (fun i : Nat => .int ((ps.length - 1 - i : Nat) : Int)) (fun i ρ' => ∃ t s4 s5 s6 s7, ρ' = [.dat (lP ps), .dat (.int (ps.length : Int)), .dat (.list ((lotsM ps.length).map lotD)), .ownD (tabK t) (tabD t), s4, s5, s6, s7] ∧ waysGo ps ps.length (ps.length - i) t = some T)
    (iw_down (eax_cons (ex_op (ex_var rfl) ex_int rx_int) (eax_cons (ex_un ex_int ux_neg) (eax_cons (ex_un ex_int ux_neg) eax_nil))) (by omega)) ⟨[(((ps.length : Int), 0), 1)], .no, .no, .no, .no, rfl, hT⟩ ?_ ?_)
  · rintro i x ρ' hx hlt ⟨t, s4, s5, s6, s7, rfl, hg⟩
    rw [List.length_range] at hlt
    rw [List.getElem?_range hlt] at hx
    cases Option.some.inj hx
    refine ⟨_, _, gd_name, ?_⟩
    have e1 : ps.length - i = (ps.length - 1 - i) + 1 := by omega
    rw [e1] at hg
    unfold waysGo at hg
    have e2 : ps.length - (ps.length - 1 - i) = i + 1 := by omega
    rw [e2] at hg
    cases hrow : rowGo ps (ps.length - 1 - i) ((lotsM ps.length).getD (i + 1) []) t with
    | none =>
      rw [hrow] at hg
      exact nomatch hg
    | some t1 =>
    rw [hrow] at hg
    have hg : waysGo ps ps.length (ps.length - 1 - i) t1 = some T := hg
    have ht1 := waysGo_len hg
    have hll : i + 1 < (lotsM ps.length).length := by
      unfold lotsM
      rw [List.length_map, List.length_range]
      omega
    refine sd_forX ((lotsM ps.length).getD (i + 1) []) (fun n : Nat => .int (n : Int)) (fun j ρ' => ∃ t2 s5 s6 s7, ρ' = [.dat (lP ps), .dat (.int (ps.length : Int)), .dat (.list ((lotsM ps.length).map lotD)), .ownD (tabK t2) (tabD t2), .dat (.int ((ps.length - 1 - i : Nat) : Int)), s5, s6, s7] ∧ rowGo ps (ps.length - 1 - i) (((lotsM ps.length).getD (i + 1) []).drop j) t2 = some t1)
      (iw_list (ex_op (ex_var rfl) (EX.is (ex_op (ex_var rfl) (ex_var rfl) rx_int) (congrArg PyData.int (show (ps.length : Int) - ((ps.length - 1 - i : Nat) : Int) = ((i + 1 : Nat) : Int) by omega))) (rx_ixL (atI_map (f := lotD) (getD_some [] hll))))) ⟨t, s5, s6, s7, rfl, hrow⟩ ?_ ?_
    · rintro j lot ρ' hj hjl ⟨t2, s5, s6, s7, rfl, hg2⟩
      rw [List.drop_eq_getElem_cons hjl, show ((lotsM ps.length).getD (i + 1) [])[j] = lot from Option.some.inj ((List.getElem?_eq_getElem hjl).symm.trans hj)] at hg2
      unfold rowGo at hg2
      cases hone : oneLot ps (ps.length - 1 - i) lot t2 with
      | none =>
        rw [hone] at hg2
        exact nomatch hg2
      | some t3 =>
      rw [hone] at hg2
      have hg2 : rowGo ps (ps.length - 1 - i) (((lotsM ps.length).getD (i + 1) []).drop (j + 1)) t3 = some t1 := hg2
      have ht3 := rowGo_len hg2
      have ht2 := oneLot_len hone
      have hpl : ps.length - 1 - i < ps.length := by omega
      have hpm : ps.getD (ps.length - 1 - i) (0, 0) ∈ ps := List.mem_of_getElem? (getD_some (0, 0) hpl)
      unfold oneLot at hone
      split at hone
      case isFalse => exact nomatch hone
      rename_i hc
      cases Option.some.inj hone
      simp only [Bool.and_eq_true, Bool.not_eq_true', List.all_eq_true] at hc
      refine ⟨_, _, gd_name, ?_⟩
      refine sd_seq (sd_asg (EX.toS (EL.ex (EL.is (el_lc (freeM (ps.getD (ps.length - 1 - i) (0, 0)) (lot : Int)) PyData.int (fun _ => true) (fun th => .int ((lookT t2 (((ps.length - 1 - i : Nat) : Int) + 1, (lot : Int) - bitM th)).getD 0)) [7]
        (iw_list (ex_call (ea_dat (ex_op (ex_var rfl) (ex_var rfl) (rx_ixL (atI_map (f := pI) (getD_some (0, 0) hpl)))) (ea_dat (ex_var rfl) ea_nil)) ⟨_, _, rfl, (hp _ hpm).1, (hp _ hpm).2, rfl⟩)) (fun j h => h) ?_ fun th hth => ⟨_, gd_name, et_yes, fun _ =>
          ex_dgetO (k := keyL (((ps.length - 1 - i : Nat) : Int) + 1) ((lot : Int) - bitM th)) rfl (ex_tupt (eax_cons (ex_op (ex_var rfl) ex_int rx_int) (eax_cons (ex_op (ex_var rfl) (ex_call (ea_dat (ex_var rfl) ea_nil) ⟨th, rfl, ?_, ?_, rfl⟩) rx_int) eax_nil)) (by show 2 ≤ 100000; decide)) ?_⟩)
        (show _ = ((freeM (ps.getD (ps.length - 1 - i) (0, 0)) (lot : Int)).map fun th => (lookT t2 (((ps.length - 1 - i : Nat) : Int) + 1, (lot : Int) - bitM th)).getD 0).map PyData.int from ?_)))) ?_)
      · refine Nat.le_trans (List.length_filter_le _ _) ?_
        rw [List.length_map, List.length_range]
        have := (hp _ hpm)
        omega
      · have := (List.mem_filter.mp hth).1
        obtain ⟨q, hq, rfl⟩ := List.mem_map.mp this
        have := List.mem_range.mp hq
        have := (hp _ hpm)
        omega
      · have := (List.mem_filter.mp hth).1
        obtain ⟨q, hq, rfl⟩ := List.mem_map.mp this
        have := List.mem_range.mp hq
        have := (hp _ hpm)
        omega
      · rw [tab_at]
        have := hc.1 th hth
        obtain ⟨v, hv⟩ := Option.isSome_iff_exists.mp this
        rw [hv]
        rfl
      · rw [List.filter_eq_self.mpr fun _ _ => rfl, List.map_map]
        rfl
      · refine sd_dputN (k := keyL ((ps.length - 1 - i : Nat) : Int) (lot : Int)) rfl (ex_cb (eax_cons (ex_var rfl) eax_nil) rcx_sum) (ex_tupt (eax_cons (ex_var rfl) (eax_cons (ex_var rfl) eax_nil)) (by show 2 ≤ 100000; decide)) ?_ ?_ ?_
        · rw [tab_has, hc.2]
        · rw [(tab_len t2).1]; omega
        · refine ⟨_, .dat (.int (lot : Int)), .dat (lI ((freeM (ps.getD (ps.length - 1 - i) (0, 0)) (lot : Int)).map fun th => (lookT t2 (((ps.length - 1 - i : Nat) : Int) + 1, (lot : Int) - bitM th)).getD 0)), s7, ?_, hg2⟩
          unfold tabK tabD
          rw [List.map_append, List.map_append]
          rfl
    · rintro ρ' ⟨t2, s5, s6, s7, rfl, hg2⟩
      rw [List.drop_length] at hg2
      cases Option.some.inj hg2
      refine ⟨t1, _, s5, s6, s7, rfl, ?_⟩
      rw [show ps.length - (i + 1) = ps.length - 1 - i by omega]
      exact hg
  · rintro ρ' ⟨t, s4, s5, s6, s7, rfl, hg⟩
    rw [List.length_range, Nat.sub_self] at hg
    cases Option.some.inj hg
    exact sd_retD rfl h
def R_all_things (ss : List Sl) (P : PyData → Prop) : Prop := ∃ ps : List (Int × Int), ss = [.dat (lP ps)] ∧ ps.length ≤ 62 ∧ P (.int (allM ps.length))
theorem cal_all_things (F : C8.Def K mg "all_things" sall_things f fd) (bd : Binds K fd ["board"] []) (T : BI mg) : C8.Cal P w K mg base 1 "all_things" (spR K R_all_things) [] := by
  have sc := scall_things
  refine def_by F bd sc (by decide) (fun ss P h => by obtain ⟨p, rfl, _⟩ := h; rfl) fun cdv A outer s H E hr => ⟨_, (pss_one (ps_ret (pe_op op_sub (pe_op op_shl pe_int (pe_callB call_len_seq (by rfl) T.len (by decide +kernel) (pa_cons (pv 0) pa_nil))) pe_int))), fun ss Pd h => ?_⟩
  obtain ⟨ps, rfl, h62, h⟩ := h
  refine sd_ret (ex_op (ex_op ex_int (EX.is (ex_cb (eax_cons (ex_var rfl) eax_nil) rcx_lenL) (show _ = PyData.int (ps.length : Int) by rw [List.length_map])) (rx_intC ⟨by omega, by omega, by decide⟩)) ex_int rx_int) h
def howM (ps : List (Int × Int)) : Option Int := (waysM ps).bind fun T => if T.length ≤ 10000 then lookT T (0, allM ps.length) else none
def R_how_many (ss : List Sl) (P : PyData → Prop) : Prop := ∃ (ps : List (Int × Int)) (r : Int), ss = [.dat (lP ps)] ∧ ps.length ≤ 9 ∧ brdB ps = true ∧ brdOk ps = true ∧ howM ps = some r ∧ P (.int r)
theorem cal_how_many (F : C8.Def K mg "how_many" show_many f fd) (bd : Binds K fd ["board"] []) (T : BI mg) (c_ways_left : C8.Cal P w K mg base 3 "ways_left" (spR K R_ways_left) []) (c_all_things : C8.Cal P w K mg base 1 "all_things" (spR K R_all_things) [])
    (c_want_board : C8.Cal P w K mg base 4 "want_board" (spR K R_want_board) []) : C8.Cal P w K mg base 5 "how_many" (spR K R_how_many) [] := by
  have sc := schow_many
  refine def_by F bd sc (by decide) (fun ss P h => by obtain ⟨p, _, rfl, _⟩ := h; rfl) fun cdv A outer s H E hr => ⟨_, (pss_cons (ps_set (i := 1) sc.nd rfl (.inl rfl) (C8.pe_c c_want_board hr (by decide) (by rfl) (pa_cons (pv 0) pa_nil))) (pss_one (ps_ret (pe_dget (hu_of hr) (C8.pe_c c_ways_left hr (by decide) (by rfl) (pa_cons (pv 1) pa_nil)) (pe_tup (pa_cons pe_int (pa_cons (C8.pe_c c_all_things hr (by decide) (by rfl) (pa_cons (pv 1) pa_nil)) pa_nil))) (fun _ _ => rfl))))), fun ss Pd h => ?_⟩
  obtain ⟨ps, r, rfl, h9, hb, hok, hh, h⟩ := h
  unfold howM at hh
  cases hT : waysM ps with
  | none =>
    rw [hT] at hh
    exact nomatch hh
  | some T =>
  rw [hT] at hh
  have hh : (if T.length ≤ 10000 then lookT T (0, allM ps.length) else none) = some r := hh
  split at hh
  case isFalse => exact nomatch hh
  rename_i hl
  refine sd_seq (sd_asg (EX.toS (ex_call (ea_dat (ex_var rfl) ea_nil) ⟨ps, rfl, by omega, hb, rfl⟩)) ?_)
  refine sd_ret (ex_dgetD (k := keyL 0 (allM ps.length)) (ex_call (ea_dat (ex_var rfl) ea_nil) ⟨ps, T, rfl, h9, hok, hT, hl, rfl⟩) (by rw [(tab_len T).1, (tab_len T).2]) ?_ (ex_tupt (eax_cons ex_int (eax_cons (ex_call (ea_dat (ex_var rfl) ea_nil) ⟨ps, rfl, by omega, rfl⟩) eax_nil)) (by show 2 ≤ 100000; decide)) ?_) h
  · intro z
    have : T = [] := by
      cases T with
      | nil => rfl
      | cons a l => exact nomatch z
    subst this
    exact nomatch hh
  · rw [tab_at, hh]
    rfl
end
end Kd

/-! The program's lists. -/
namespace Kd
open PySem PySem.Spec PyProof.Rows L2 Evl

abbrev kI (l : List Int) : List Key := l.map Sum.inl
def hasI (ks : List (List Int)) (k : List Int) : Bool := ks.any fun q => decide (q = k)
def addK (ks : List (List Int)) (k : List Int) : List (List Int) := if hasI ks k then ks else ks ++ [k]
def nextO (ks : List (List Int)) (o : List Int) : List (List Int) := (stepsM o).foldl (fun ks p => addK ks (swp o p.1 p.2)) ks
def nextKs (os : List (List Int)) : List (List Int) := os.foldl nextO []
def levO : Nat → List (List Int) → Option (List (List (List Int)))
  | 0, here => if here = [] then some [] else none
  | f + 1, here => if here = [] then some [] else if here.length ≤ 63 ∧ (nextKs here).length < 64 then (levO f (sortT 10 (nextKs here))).map fun r => here :: r else none
abbrev lT (os : List (List Int)) : PyData := .list (os.map tI)
theorem kI_inj : ∀ {a b : List Int}, kI a = kI b → a = b
  | [], [], _ => rfl
  | [], _ :: _, h => nomatch h
  | _ :: _, [], h => nomatch h
  | x :: a, y :: b, h => by
    rw [kI, List.map_cons, kI, List.map_cons] at h
    injection h with h1 h2
    injection h1 with h1
    rw [h1, kI_inj h2]
theorem has_kI (k : List Int) : ∀ ks : List (List Int), hasK (ks.map kI) (kI k) = hasI ks k
  | [] => rfl
  | q :: ks => by
    have ih := has_kI k ks
    unfold hasK hasI at ih ⊢
    rw [List.map_cons, List.any_cons, List.any_cons, ih]
    congr 1
    exact decide_eq_decide.mpr ⟨kI_inj, fun h => by rw [h]⟩
theorem addK_len (ks : List (List Int)) (k : List Int) : ks.length ≤ (addK ks k).length := by
  unfold addK
  split
  · exact Nat.le_refl _
  · rw [List.length_append]; omega
theorem fold_len {α : Type} (g : List (List Int) → α → List (List Int)) (hg : ∀ ks a, ks.length ≤ (g ks a).length) : ∀ (l : List α) (ks : List (List Int)), ks.length ≤ (l.foldl g ks).length
  | [], ks => Nat.le_refl _
  | a :: l, ks => Nat.le_trans (hg ks a) (fold_len g hg l (g ks a))
theorem nextO_len (ks : List (List Int)) (o : List Int) : ks.length ≤ (nextO ks o).length := fold_len _ (fun ks p => addK_len ks _) _ _
theorem set_mem {α : Type} {x a : α} : ∀ {l : List α} {i : Nat}, x ∈ l.set i a → x = a ∨ x ∈ l
  | [], _, h => by simp at h
  | y :: l, 0, h => by
    rcases List.mem_cons.mp h with h | h
    · exact .inl h
    · exact .inr (List.mem_cons_of_mem _ h)
  | y :: l, i + 1, h => by
    rcases List.mem_cons.mp h with h | h
    · exact .inr (by rw [h]; exact List.mem_cons_self)
    · rcases set_mem h with h | h
      · exact .inl h
      · exact .inr (List.mem_cons_of_mem _ h)
theorem swp_ok {o : List Int} {i j n : Nat} {B : Int} (hi : i < o.length) (hj : j < o.length) (h : o.length = n ∧ TS.Bd B o) : (swp o i j).length = n ∧ TS.Bd B (swp o i j) := by
  unfold swp
  refine ⟨by rw [List.length_set, List.length_set]; exact h.1, fun x hx => h.2 x ?_⟩
  rcases set_mem hx with rfl | hx
  · exact List.mem_of_getElem? (getD_some 0 hi)
  · rcases set_mem hx with rfl | hx
    · exact List.mem_of_getElem? (getD_some 0 hj)
    · exact hx
theorem canLayAll_T : ∀ os : List (List Int), PyData.canLayAll0 (os.map tI) = true
  | [] => by simp [PyData.canLayAll0]
  | o :: os => by
    rw [List.map_cons]
    simp [PyData.canLayAll0, PyData.canLay0, canLayAll_ints o, canLayAll_T os]
theorem depthAll_T : ∀ os : List (List Int), PyData.depthAll (os.map tI) ≤ 1
  | [] => by simp [PyData.depthAll]
  | o :: os => by
    have h := PyProof.Rows.depthAll_ints o
    have ih := depthAll_T os
    rw [List.map_cons]
    simp only [PyData.depthAll, PyData.depth, h]
    omega
theorem shaped_lT (os : List (List Int)) : SeqAt.shaped (lT os) = true := by
  unfold SeqAt.shaped
  have h := depthAll_T os
  have e : (lT os).canLay0 = true := by simp [PyData.canLay0, canLayAll_T]
  have e2 : (lT os).depth = PyData.depthAll (os.map tI) + 1 := by simp [PyData.depth]
  rw [e, e2, Bool.true_and]
  exact decide_eq_true (by omega)
theorem eqvAll_T : ∀ a b : List (List Int), PyData.eqvAll (a.map tI) (b.map tI) = decide (a = b)
  | [], [] => by simp [PyData.eqvAll]
  | [], y :: b => by simp [PyData.eqvAll]
  | x :: a, [] => by simp [PyData.eqvAll]
  | x :: a, y :: b => by
    rw [List.map_cons, List.map_cons]
    simp only [PyData.eqvAll, eqvAll_T a b, eqv_tI]
    by_cases e : x = y
    · subst e; simp
    · simp [e]
theorem eqv_lT (a b : List (List Int)) : PyData.eqv (lT a) (lT b) = decide (a = b) := by
  simp only [lT, PyData.eqv, eqvAll_T]

section
variable {P : Program} {w : World} {K : PySem.W.Frag} {mg : Str → Option Value} {base : Heap} {f : Addr} {fd : FuncData}
abbrev swant_few : Stmt := topS 59
abbrev Nwant_few : List Str := ["order"]
theorem scwant_few : FnScope Nwant_few ["order"] (C8.fnScope swant_few) := C8.fnScope_by (by decide +kernel)
abbrev snext_level : Stmt := topS 60
abbrev Nnext_level : List Str := ["orders", "steps", "found", "order", "exchange"]
theorem scnext_level : FnScope Nnext_level ["orders", "steps"] (C8.fnScope snext_level) := C8.fnScope_by (by decide +kernel)
abbrev slevels_from : Stmt := topS 61
abbrev Nlevels_from : List Str := ["order", "steps", "found", "here"]
theorem sclevels_from : FnScope Nlevels_from ["order", "steps"] (C8.fnScope slevels_from) := C8.fnScope_by (by decide +kernel)
abbrev sbelow_of : Stmt := topS 62
abbrev Nbelow_of : List Str := ["order", "level", "one"]
theorem scbelow_of : FnScope Nbelow_of ["order"] (C8.fnScope sbelow_of) := C8.fnScope_by (by decide +kernel)
abbrev sall_below : Stmt := topS 63
abbrev Nall_below : List Str := ["order", "here"]
theorem scall_below : FnScope Nall_below ["order"] (C8.fnScope sall_below) := C8.fnScope_by (by decide +kernel)
def R_want_few (ss : List Sl) (P : PyData → Prop) : Prop := ∃ o : List Int, ss = [.dat (tI o)] ∧ o.length ≤ 6 ∧ P .none
theorem cal_want_few (F : C8.Def K mg "want_few" swant_few f fd) (bd : Binds K fd ["order"] []) (T : BI mg) (g_MOST_THINGS_lists : ∃ u, mg "MOST_THINGS_lists" = some u ∧ RelV (.int 6) u) (c_want_at_most : C8.Cal P w K mg base 1 "want_at_most" (spR K R_want_at_most) []) : C8.Cal P w K mg base 2 "want_few" (spR K R_want_few) [] := by
  have sc := scwant_few
  refine def_by F bd sc (by decide) (fun ss P h => by obtain ⟨p, rfl, _⟩ := h; rfl) fun cdv A outer s H E hr => ⟨_, (pss_one (ps_expr (C8.pe_c c_want_at_most hr (by decide) (by rfl) (pa_cons pe_str (pa_cons (C8.pe_gc rfl g_MOST_THINGS_lists) (pa_cons (pe_callB call_len_seq (by rfl) T.len (by decide +kernel) (pa_cons (pv 0) pa_nil)) pa_nil)))))), fun ss Pd h => ?_⟩
  obtain ⟨o, rfl, h6, h⟩ := h
  exact sd_drop (ex_call (ea_dat ex_str (ea_dat ex_int (ea_dat (ex_cb (eax_cons (ex_var rfl) eax_nil) (rcx_lenI (.inl rfl))) ea_nil))) ⟨_, 6, (o.length : Int), rfl, by omega, rfl⟩) h
def R_next_level (fS : Addr) (ss : List Sl) (P : PyData → Prop) : Prop := ∃ (os : List (List Int)) (n : Nat), ss = [.dat (lT os), .val (.ref fS)] ∧ (∀ o ∈ os, o.length = n ∧ TS.Bd 10 o) ∧ 1 ≤ n ∧ n ≤ 9 ∧ os.length ≤ 63 ∧ (nextKs os).length < 64 ∧ P (lT (sortT 10 (nextKs os)))
theorem cal_next_level {fS : Addr} (F : C8.Def K mg "next_level" snext_level f fd) (bd : Binds K fd ["orders", "steps"] []) (T : BI mg) (hS : mg "steps_down" = some (.ref fS)) (c_steps_down : C8.Cal P w K mg base 3 "steps_down" (spR K R_steps_down) [])
    (c_done : C8.Cal P w K mg base 1 "done" (spR K R_done) []) : C8.Cal P w K mg base 4 "next_level" (spR K (R_next_level fS)) [] := by
  have sc := scnext_level
  obtain ⟨fS', fdS, psS, dsS, cF, cM, cK, cB, cD⟩ := c_steps_down.ex
  cases cD
  rw [hS] at cM
  injection cM with cM
  injection cM with cM
  subst cM
  refine def_by F bd sc (by decide) (fun ss P h => by obtain ⟨p, _, rfl, _⟩ := h; rfl) fun cdv A outer s H E hr => ⟨_, (pss_cons (ps_set (i := 2) sc.nd rfl (.inl rfl) pe_dnewT) (pss_cons (ps_for PassesOwn.never rfl (pi_list (pv 0)) (pg_name (i := 3) sc.nd rfl (.inl rfl)) (pss_one (ps_for PassesOwn.never rfl (pi_list (pe_callL (E := C8.E0) (i := 1) cF (hr.mono (by decide)) rfl (.inl rfl) cK cB .nil C8.pass0 (pa_cons (pv 3) pa_nil))) (pg_name (i := 4) sc.nd rfl (.inl rfl)) (pss_one (ps_dput (hu_of hr) (pv 2) (C8.pe_c c_done hr (by decide) (by rfl) (pa_cons (pv 3) (pa_cons (pv 4) pa_nil))) pe_bl rfl))))) (pss_one (ps_ret (pe_callB (cr_sortedDT rfl) (by rfl) T.sorted (by decide +kernel) (pa_cons (pv 2) pa_nil)))))), fun ss Pd h => ?_⟩
  obtain ⟨os, n, rfl, hos, h1, h9, h63, h64, h⟩ := h
  refine sd_seq (sd_asg es_dnewT ?_)
  refine sd_seq (sd_forX os tI (fun i ρ' => ∃ ks s3 s4, ρ' = [.dat (lT os), .val (.ref fS), .ownD (ks.map kI) ((ks.map kI).map fun _ => .bool true), s3, s4] ∧ (os.drop i).foldl nextO ks = nextKs os ∧ ∀ l ∈ ks, l.length = n ∧ TS.Bd 10 l) (iw_list (ex_var rfl)) ⟨[], .no, .no, rfl, rfl, fun _ h => nomatch h⟩ ?_ ?_)
  · rintro i o ρ' ho hlt ⟨ks, s3, s4, rfl, hg, hk⟩
    rw [List.drop_eq_getElem_cons hlt, show os[i] = o from Option.some.inj ((List.getElem?_eq_getElem hlt).symm.trans ho), List.foldl_cons] at hg
    have ho' := hos o (List.mem_of_getElem? ho)
    refine ⟨_, _, gd_name, ?_⟩
    refine sd_forX (stepsM o) pN (fun j ρ' => ∃ ks2 s4, ρ' = [.dat (lT os), .val (.ref fS), .ownD (ks2.map kI) ((ks2.map kI).map fun _ => .bool true), .dat (tI o), s4] ∧ ((stepsM o).drop j).foldl (fun ks p => addK ks (swp o p.1 p.2)) ks2 = nextO ks o ∧ ∀ l ∈ ks2, l.length = n ∧ TS.Bd 10 l)
      (iw_list (ex_callL rfl (ea_dat (ex_var rfl) ea_nil) ⟨o, rfl, by omega, rfl⟩)) ⟨ks, s4, rfl, rfl, hk⟩ ?_ ?_
    · rintro j p ρ' hp hjl ⟨ks2, s4, rfl, hg2, hk2⟩
      rw [List.drop_eq_getElem_cons hjl, show (stepsM o)[j] = p from Option.some.inj ((List.getElem?_eq_getElem hjl).symm.trans hp), List.foldl_cons] at hg2
      have hpm : p ∈ exch o.length := (List.mem_filter.mp (List.mem_of_getElem? hp)).1
      have hpl := exch_lt hpm
      have hnew := swp_ok (i := p.1) (j := p.2) (by omega) (by omega) ho'
      have hlen : ks2.length < 64 := by
        have a1 := fold_len (fun ks (p : Nat × Nat) => addK ks (swp o p.1 p.2)) (fun ks p => addK_len ks _) ((stepsM o).drop (j + 1)) (addK ks2 (swp o p.1 p.2))
        rw [hg2] at a1
        have a2 := addK_len ks2 (swp o p.1 p.2)
        have a3 := fold_len nextO nextO_len (os.drop (i + 1)) (nextO ks o)
        rw [hg] at a3
        omega
      have hkey : ∀ (ρ : Rho), ρ[3]? = some (.dat (tI o)) → ρ[4]? = some (.dat (pN p)) → EX K (tCall (spR K R_done) [] C8.E0 (tCons (tVar 3) (tCons (tVar 4) tNil))) ρ (trk ((kI (swp o p.1 p.2)).map kD)) := fun ρ e1 e2 =>
        EX.is (ex_call (ea_dat (ex_var e1) (ea_dat (ex_var e2) ea_nil)) ⟨o, p.1, p.2, rfl, by omega, by omega, rfl⟩) (by rw [kI, List.map_map]; rfl)
      refine ⟨_, _, gd_name, ?_⟩
      cases hh : hasI ks2 (swp o p.1 p.2) with
      | true =>
        refine sd_dputE rfl ex_bl (hkey _ rfl rfl) (by rw [has_kI, hh]) (by rw [List.length_map]; omega) ?_
        have ea : addK ks2 (swp o p.1 p.2) = ks2 := by unfold addK; rw [if_pos hh]
        rw [ea] at hg2
        exact ⟨ks2, .dat (pN p), rfl, hg2, hk2⟩
      | false =>
        refine sd_dputN rfl ex_bl (hkey _ rfl rfl) (by rw [has_kI, hh]) (by rw [List.length_map]; omega) ?_
        have ea : addK ks2 (swp o p.1 p.2) = ks2 ++ [swp o p.1 p.2] := by unfold addK; rw [if_neg (by rw [hh]; decide)]
        rw [ea] at hg2
        refine ⟨ks2 ++ [swp o p.1 p.2], .dat (pN p), ?_, hg2, fun l hl => ?_⟩
        · rw [List.map_append, List.map_append]
          rfl
        · rcases List.mem_append.mp hl with hl | hl
          · exact hk2 l hl
          · rw [List.mem_singleton.mp hl]
            exact hnew
    · rintro ρ' ⟨ks2, s4, rfl, hg2, hk2⟩
      rw [List.drop_length] at hg2
      have hg2 : ks2 = nextO ks o := hg2
      rw [← hg2] at hg
      exact ⟨ks2, .dat (tI o), s4, rfl, hg, hk2⟩
  · rintro ρ' ⟨ks, s3, s4, rfl, hg, hk⟩
    rw [List.drop_length] at hg
    have hg : ks = nextKs os := hg
    rw [← hg] at h h64
    exact sd_ret (EL.ex (el_sortedO (dl := n) (B := 10) rfl h64 h1 (by decide) hk)) h
theorem sortT_mem {B : Int} {l : List (List Int)} {x : List Int} (h : x ∈ sortT B l) : x ∈ l := (sortT_perm B l).mem_iff.mp h
theorem addK_ok {p : List Int → Prop} {ks : List (List Int)} {k : List Int} (hk : ∀ l ∈ ks, p l) (h : p k) : ∀ l ∈ addK ks k, p l := fun l hl => by
  unfold addK at hl
  split at hl
  · exact hk l hl
  · rcases List.mem_append.mp hl with hl | hl
    · exact hk l hl
    · rw [List.mem_singleton.mp hl]; exact h
theorem nextO_ok {n : Nat} {B : Int} {o : List Int} (ho : o.length = n ∧ TS.Bd B o) : ∀ {ks : List (List Int)}, (∀ l ∈ ks, l.length = n ∧ TS.Bd B l) → ∀ l ∈ nextO ks o, l.length = n ∧ TS.Bd B l := by
  unfold nextO
  have hm : ∀ p ∈ stepsM o, p.1 < o.length ∧ p.2 < o.length := fun p hp => by
    have := exch_lt (List.mem_filter.mp hp).1
    omega
  generalize stepsM o = st at hm
  induction st with
  | nil => intro ks h; exact h
  | cons p st ih =>
    intro ks h
    rw [List.foldl_cons]
    have := hm p List.mem_cons_self
    exact ih (fun q hq => hm q (List.mem_cons_of_mem _ hq)) (addK_ok h (swp_ok this.1 this.2 ho))
theorem nextKs_ok {n : Nat} {B : Int} {os : List (List Int)} (ho : ∀ o ∈ os, o.length = n ∧ TS.Bd B o) : ∀ l ∈ nextKs os, l.length = n ∧ TS.Bd B l := by
  unfold nextKs
  have go : ∀ (os : List (List Int)) (ks : List (List Int)), (∀ o ∈ os, o.length = n ∧ TS.Bd B o) → (∀ l ∈ ks, l.length = n ∧ TS.Bd B l) → ∀ l ∈ os.foldl nextO ks, l.length = n ∧ TS.Bd B l := fun os => by
    induction os with
    | nil => intro ks _ h; exact h
    | cons o os ih =>
      intro ks h1 h2
      exact ih _ (fun q hq => h1 q (List.mem_cons_of_mem _ hq)) (nextO_ok (h1 o List.mem_cons_self) h2)
  exact go os [] ho fun _ h => nomatch h
def R_levels_from (fS : Addr) (ss : List Sl) (P : PyData → Prop) : Prop := ∃ (o : List Int) (lv : List (List (List Int))), ss = [.dat (tI o), .val (.ref fS)] ∧ (1 ≤ o.length ∧ o.length ≤ 9) ∧ TS.Bd 10 o ∧ levO 40 [o] = some lv ∧ P (.list (lv.map lT))
theorem cal_levels_from {fS : Addr} (F : C8.Def K mg "levels_from" slevels_from f fd) (bd : Binds K fd ["order", "steps"] []) (T : BI mg) (c_next_level : C8.Cal P w K mg base 4 "next_level" (spR K (R_next_level fS)) []) : C8.Cal P w K mg base 5 "levels_from" (spR K (R_levels_from fS)) [] := by
  have sc := sclevels_from
  refine def_by F bd sc (by decide) (fun ss P h => by obtain ⟨p, _, rfl, _⟩ := h; rfl) fun cdv A outer s H E hr => ⟨_, (pss_cons (ps_par (i := 2) (j := 3) rfl sc.nd rfl rfl (by decide) rfl rfl (pa_cons (pe_lst pa_nil) (pa_cons (pe_lst (pa_cons (pv 0) pa_nil)) pa_nil)) (by rfl)) (pss_cons (ps_while PassesOwn.never (pt_cmpR (op_neD hr.units) (pv 3) (pe_lst pa_nil) (nomark _)) (pss_cons (ps_expr (pe_bm PySem.F.plainAttrs_list PySem.F.slot_list_append PySem.F.type_list_append mt_append (pv 2) (pa_cons (pv 3) pa_nil))) (pss_one (ps_set (i := 3) sc.nd rfl (.inl rfl) (C8.pe_c c_next_level hr (by decide) (by rfl) (pa_cons (pv 3) (pa_cons (pv 1) pa_nil))))))) (pss_one (ps_ret (pv 2))))), fun ss Pd h => ?_⟩
  obtain ⟨o, lv, rfl, ⟨h1, h9⟩, hB, hlv, h⟩ := h
  refine sd_seq (sd_par (EL.toS (el_lst eax_nil (by decide))) (EX.toS (EL.ex (el_lst (eax_cons (ex_var rfl) eax_nil) (by show 1 ≤ 100000; decide)))) ?_)
  refine sd_seq (sd_while (fun f ρ' => ∃ (acc : List (List (List Int))) (here : List (List Int)) (rest : List (List (List Int))), ρ' = [.dat (tI o), .val (.ref fS), .own (acc.map lT), .dat (lT here)] ∧ levO f here = some rest ∧ acc ++ rest = lv ∧ acc.length + f ≤ 40 ∧ ∀ l ∈ here, l.length = o.length ∧ TS.Bd 10 l)
    40 ⟨[], [o], lv, rfl, hlv, rfl, by decide, fun l hl => by rw [List.mem_singleton.mp hl]; exact ⟨rfl, hB⟩⟩ ?_)
  rintro f ρ' ⟨acc, here, rest, rfl, hr', ha, hf, hh⟩
  have eq0 : (!PyData.eqv (lT here) (.list [])) = !decide (here = []) := by rw [← eqv_lT here []]; rfl
  refine ⟨!decide (here = []), et_test (EX.is (ex_op (ex_var rfl) (EL.ex (el_lst eax_nil (by decide))) (rx_neD (shaped_lT here) (shaped_lT []))) (by rw [eq0])), fun e => ?_, fun e => ?_⟩
  · have hne : here ≠ [] := fun z => by rw [decide_eq_true z] at e; exact nomatch e
    cases f with
    | zero =>
      unfold levO at hr'
      rw [if_neg hne] at hr'
      exact nomatch hr'
    | succ f =>
      unfold levO at hr'
      rw [if_neg hne] at hr'
      split at hr'
      case isFalse => exact nomatch hr'
      rename_i hc
      obtain ⟨rest', hr2, rfl⟩ := Option.map_eq_some_iff.mp hr'
      refine sd_seq (sd_append rfl (ex_var rfl) (by rw [List.length_map]; omega) ?_)
      refine sd_asg (EX.toS (ex_call (ea_dat (ex_var rfl) (ea_val rfl ea_nil)) ⟨here, o.length, rfl, hh, h1, h9, hc.1, hc.2, rfl⟩)) ?_
      refine ⟨f, by omega, acc ++ [here], sortT 10 (nextKs here), rest', ?_, hr2, by rw [List.append_assoc]; exact ha, by rw [List.length_append, List.length_singleton]; omega, fun l hl => nextKs_ok hh l (sortT_mem hl)⟩
      rw [List.map_append]
      rfl
  · have hne : here = [] := by
      cases here with
      | nil => rfl
      | cons a l => exact nomatch e
    subst hne
    have er : rest = [] := by
      cases f <;> (unfold levO at hr'; rw [if_pos rfl] at hr'; exact (Option.some.inj hr').symm)
    rw [er, List.append_nil] at ha
    rw [← ha] at h
    exact sd_freeze 2 rfl (sd_ret (ex_var rfl) h)
def belowM (o : List Int) : Option (List (List Int)) := (levO 40 [o]).bind fun lv => if (lv.reverse.flatMap id).length ≤ 40000 then some (lv.reverse.flatMap id) else none
def R_below_of (ss : List Sl) (P : PyData → Prop) : Prop := ∃ (o : List Int) (bl : List (List Int)), ss = [.dat (tI o)] ∧ (1 ≤ o.length ∧ o.length ≤ 9) ∧ TS.Bd 10 o ∧ belowM o = some bl ∧ P (lT bl)
theorem cal_below_of {fS : Addr} (F : C8.Def K mg "below_of" sbelow_of f fd) (bd : Binds K fd ["order"] []) (T : BI mg) (hS : mg "steps_down" = some (.ref fS)) (c_levels_from : C8.Cal P w K mg base 5 "levels_from" (spR K (R_levels_from fS)) []) : C8.Cal P w K mg base 6 "below_of" (spR K R_below_of) [] := by
  have sc := scbelow_of
  have g_steps_down : ∃ u, mg "steps_down" = some u ∧ RelV (.ref fS) u := ⟨_, hS, rfl⟩
  refine def_by F bd sc (by decide) (fun ss P h => by obtain ⟨p, _, rfl, _⟩ := h; rfl) fun cdv A outer s H E hr => ⟨_, (pss_one (ps_ret (pe_lc2 (own := [("level", 1), ("one", 2)]) (vs1 := [2]) rfl sc.nd (pi_list (pe_revL (C8.pe_c c_levels_from hr (by decide) (by rfl) (pa_cons (pv 0) (pa_cons (C8.pe_gc rfl g_steps_down) pa_nil))))) (blkOk_by (own := [("level", 1), ("one", 2)]) (N := Nbelow_of) (sc := C8.fnScope sbelow_of) (by decide +kernel)) (by decide) (fun _ _ _ _ _ => (pg_name (i := 1) sc.nd rfl (.inl rfl))) (fun _ _ _ _ _ => pts_nil) (fun _ _ _ _ _ => ((pi_listK (K := K) rfl) (pv 1))) (fun _ _ _ _ _ => (pg_name (i := 2) sc.nd rfl (.inl rfl))) (fun _ _ _ _ _ => pts_nil) (fun _ _ _ _ _ => (pv 2))))), fun ss Pd h => ?_⟩
  obtain ⟨o, bl, rfl, h19, hB, hbl, h⟩ := h
  unfold belowM at hbl
  cases hlv : levO 40 [o] with
  | none =>
    rw [hlv] at hbl
    exact nomatch hbl
  | some lv =>
  rw [hlv] at hbl
  have hbl : (if (lv.reverse.flatMap id).length ≤ 40000 then some (lv.reverse.flatMap id) else none) = some bl := hbl
  split at hbl
  case isFalse => exact nomatch hbl
  rename_i hz
  cases Option.some.inj hbl
  refine sd_ret (EL.ex (el_lc2 lv.reverse lT id tI tI [1] [2] (IW.is (iw_list (EL.ex (el_revL (ex_call (ea_dat (ex_var rfl) (ea_valC ea_nil)) ⟨o, lv, rfl, h19, hB, hlv, rfl⟩)))) (by rw [List.map_reverse])) (fun j h => by simpa using .inl (List.mem_singleton.mp h)) (fun j h => h) hz
    fun l hl => ⟨_, gd_name, fun i s hs => ?_, iw_list (ex_var rfl), fun y hy => ⟨_, gd_name, ex_var rfl⟩⟩)) h
  match i with
  | 0 => cases Option.some.inj hs; rfl
  | 1 => cases Option.some.inj hs; rfl
  | 2 => cases Option.some.inj hs; rfl
  | i + 3 => exact nomatch hs
def R_all_below (ss : List Sl) (P : PyData → Prop) : Prop := ∃ (d : PyData) (o : List Int) (bl : List (List Int)), ss = [.dat d] ∧ (d = tI o ∨ d = lI o) ∧ isOrd o = true ∧ (1 ≤ o.length ∧ o.length ≤ 6) ∧ TS.Bd 10 o ∧ belowM o = some bl ∧ P (lT bl)
theorem cal_all_below (F : C8.Def K mg "all_below" sall_below f fd) (bd : Binds K fd ["order"] []) (T : BI mg) (c_below_of : C8.Cal P w K mg base 6 "below_of" (spR K R_below_of) []) (c_want_few : C8.Cal P w K mg base 2 "want_few" (spR K R_want_few) [])
    (c_want_order : C8.Cal P w K mg base 3 "want_order" (spR K R_want_order) []) : C8.Cal P w K mg base 7 "all_below" (spR K R_all_below) [] := by
  have sc := scall_below
  refine def_by F bd sc (by decide) (fun ss P h => by obtain ⟨p, _, _, rfl, _⟩ := h; rfl) fun cdv A outer s H E hr => ⟨_, (pss_cons (ps_set (i := 1) sc.nd rfl (.inl rfl) (C8.pe_c c_want_order hr (by decide) (by rfl) (pa_cons (pv 0) pa_nil))) (pss_cons (ps_expr (C8.pe_c c_want_few hr (by decide) (by rfl) (pa_cons (pv 1) pa_nil))) (pss_one (ps_ret (C8.pe_c c_below_of hr (by decide) (by rfl) (pa_cons (pv 1) pa_nil)))))), fun ss Pd h => ?_⟩
  obtain ⟨d, o, bl, rfl, hd, ho, h16, hB, hbl, h⟩ := h
  refine sd_seq (sd_asg (EX.toS (ex_call (ea_dat (ex_var rfl) ea_nil) ⟨d, o, rfl, hd, by omega, ho, rfl⟩)) ?_)
  refine sd_seq (sd_drop (ex_call (ea_dat (ex_var rfl) ea_nil) ⟨o, rfl, h16.2, rfl⟩) ?_)
  exact sd_ret (ex_call (ea_dat (ex_var rfl) ea_nil) ⟨o, bl, rfl, ⟨h16.1, by omega⟩, hB, hbl, rfl⟩) h
end
end Kd

/-! The law's pot and what is drawn from it. -/
namespace Kd
open PySem PySem.Spec PyProof.Rows L2 Evl

def raiseM (v : List Int) (p : Nat) (t : Int) : List Int := (v.map fun o => if o ≥ t then o + 1 else o).take p ++ [t] ++ (v.map fun o => if o ≥ t then o + 1 else o).drop p

section
variable {P : Program} {w : World} {K : PySem.W.Frag} {mg : Str → Option Value} {base : Heap} {f : Addr} {fd : FuncData}
abbrev s_law_pot : Stmt := topS 65
abbrev N_law_pot : List Str := ["_law_script", "_law_k", "_law_cell"]
theorem sc_law_pot : FnScope N_law_pot ["_law_script", "_law_k"] (C8.fnScope s_law_pot) := C8.fnScope_by (by decide +kernel)
abbrev s_law_draw : Stmt := topS 66
abbrev N_law_draw : List Str := ["_law_pot_here", "_law_size", "_law_digit"]
theorem sc_law_draw : FnScope N_law_draw ["_law_pot_here", "_law_size"] (C8.fnScope s_law_draw) := C8.fnScope_by (by decide +kernel)
abbrev s_law_pick : Stmt := topS 67
abbrev N_law_pick : List Str := ["_law_pot_here", "_law_some"]
theorem sc_law_pick : FnScope N_law_pick ["_law_pot_here", "_law_some"] (C8.fnScope s_law_pick) := C8.fnScope_by (by decide +kernel)
abbrev s_law_order : Stmt := topS 68
abbrev N_law_order : List Str := ["_law_pot_here", "_law_size", "_law_left", "_law_found", "_law_turn"]
theorem sc_law_order : FnScope N_law_order ["_law_pot_here", "_law_size"] (C8.fnScope s_law_order) := C8.fnScope_by (by decide +kernel)
abbrev s_law_passed : Stmt := topS 69
abbrev N_law_passed : List Str := ["_law_pot_here", "_law_order_here"]
theorem sc_law_passed : FnScope N_law_passed ["_law_pot_here", "_law_order_here"] (C8.fnScope s_law_passed) := C8.fnScope_by (by decide +kernel)
abbrev s_law_raised : Stmt := topS 70
abbrev N_law_raised : List Str := ["_law_order_here", "_law_place", "_law_thing", "_law_more", "_law_other"]
theorem sc_law_raised : FnScope N_law_raised ["_law_order_here", "_law_place", "_law_thing"] (C8.fnScope s_law_raised) := C8.fnScope_by (by decide +kernel)
abbrev s_law_four : Stmt := topS 71
abbrev N_law_four : List Str := []
theorem sc_law_four : FnScope N_law_four [] (C8.fnScope s_law_four) := C8.fnScope_by (by decide +kernel)
def sp_pot (K : PySem.W.Frag) : Sp := fun vs H Q _ => ∃ (a : Addr) (ns : List Int), vs = [.ref a, .int 0] ∧ SqL K H a (ns.map V.int) ∧ ∀ p H', PotAt H' p → Q (.ref p) H'
theorem cal__law_pot (F : C8.Def K mg "_law_pot" s_law_pot f fd) (bd : Binds K fd ["_law_script", "_law_k"] []) (T : BI mg) : C8.Cal P w K mg base 1 "_law_pot" (sp_pot K) [] := by
  have sc := sc_law_pot
  refine C8.cal0 F bd .nil sc (fun vs H Q E h => by obtain ⟨a, ns, rfl, _⟩ := h; rfl) fun cdv A outer s H vs Q E hr h => ⟨_, (pss_cons (ps_set (i := 2) sc.nd rfl (.inl rfl) (pe_ifExp (pt_cmpR op_lt (pv 1) (pe_callB call_len_seq (by rfl) T.len (by decide +kernel) (pa_cons (pv 0) pa_nil)) (nomark _)) (pe_callB call_abs (by rfl) T.abs (by decide +kernel) (pa_cons (pe_ix ix_list (pv 0) (pv 1) (fun _ _ => rfl)) pa_nil)) (pe_op op_add (pe_op op_mul pe_int (pv 1)) pe_int))) (pss_one (ps_ret (pe_lst (pa_cons (pe_callB (call_max2 rfl) (by rfl) T.max (by decide +kernel) (pa_cons pe_int (pa_cons (pe_op op_sub (pv 2) (pe_op op_pow pe_int pe_int)) pa_nil))) (pa_cons (pe_op op_add (pe_op op_mod (pe_callTy call_int1 (by rfl) T.int (by decide +kernel) (pa_cons (pe_op op_add (pe_op op_add (pe_op op_mul (pe_op op_mod (pe_callTy call_int1 (by rfl) T.int (by decide +kernel) (pa_cons (pv 2) pa_nil)) pe_int) pe_int) (pe_op op_mul pe_int (pv 1))) pe_int) pa_nil)) pe_int) pe_int) pa_nil)))))), ?_⟩
  obtain ⟨a, ns, rfl, hS, q⟩ := h
  have rest : ∀ c : Int, 0 ≤ c → (tRet (tLst (tCons (tCB (fun xs H Q => ∃ i j, xs = [.int i, .int j] ∧ Q (.int (if j > i then j else i)) H) (tCons (tC (.int 0)) (tCons (tOp (rI0 fun i j => .int (i - j)) (tVar 2) (tOp (rI CPow fun i j => .int (i ^ j.toNat)) (tC (.int 10)) (tC (.int 18)))) tNil)))
      (tCons (tOp (rI0 fun i j => .int (i + j)) (tOp (rI (fun _ j => 0 < j) fun i j => .int (i % j)) (tCB (fun xs H Q => (∃ i, xs = [.int i] ∧ Q (.int i) H) ∨ ∃ k, xs = [.bl k] ∧ Q (.int (if k then 1 else 0)) H) (tCons (tOp (rI0 fun i j => .int (i + j)) (tOp (rI0 fun i j => .int (i + j)) (tOp (rI CMul fun i j => .int (i * j)) (tOp (rI (fun _ j => 0 < j) fun i j => .int (i % j)) (tCB (fun xs H Q => (∃ i, xs = [.int i] ∧ Q (.int i) H) ∨ ∃ k, xs = [.bl k] ∧ Q (.int (if k then 1 else 0)) H) (tCons (tVar 2) tNil)) (tC (.int 2147483549))) (tC (.int 40193))) (tOp (rI CMul fun i j => .int (i * j)) (tC (.int 6299)) (tVar 1))) (tC (.int 97))) tNil)) (tC (.int 2147483563))) (tC (.int 1))) tNil))))
      { nx := fun _ H' => Q .non H', rt := Q } [some (.ref a), some (.int 0), some (.int c)] H := fun c hc => by
    have st : Sta K none (fun _ => none) H (fun _ => none) [some (.ref a), some (.int 0), some (.int c)] H [.val (.ref a), .dat (.int 0), .dat (.int c)] := by
      refine ⟨Xt.refl fun a u e => (nomatch e), (fun p e => nomatch e), rfl, fun i s es => ?_, fun i j s t p e1 e2 o1 o2 _ _ => ?_⟩
      · match i with
        | 0 => cases Option.some.inj es; rfl
        | 1 => cases Option.some.inj es; exact ⟨_, rfl, .int 0⟩
        | 2 => cases Option.some.inj es; exact ⟨_, rfl, .int c⟩
        | i + 3 => exact nomatch es
      · exfalso
        match i with
        | 0 => cases Option.some.inj e1; exact nomatch o1
        | 1 => cases Option.some.inj e1; exact nomatch o1
        | 2 => cases Option.some.inj e1; exact nomatch o1
        | i + 3 => exact nomatch e1
    refine el_lst (eax_cons (ex_cb (eax_cons ex_int (eax_cons (ex_op (ex_var rfl) (ex_op ex_int ex_int (rx_intC ⟨by decide, by decide, by decide⟩)) rx_int) eax_nil)) rcx_max2)
      (eax_cons (ex_op (ex_op (ex_cb (eax_cons (ex_op (ex_op (ex_op (ex_op (ex_cb (eax_cons (ex_var rfl) eax_nil) rcx_int1) ex_int (rx_intC (by decide))) ex_int (rx_intC (.inr ⟨by decide, by decide⟩))) (ex_op ex_int (ex_var rfl) (rx_intC (.inr ⟨by decide, by decide⟩))) rx_int) ex_int rx_int) eax_nil) rcx_int1) ex_int (rx_intC (by decide))) ex_int rx_int) eax_nil)) (by show 2 ≤ 100000; decide) none _ _ _ _ _ st _ fun p xs G2 H2 x hp g2 h2 r => ?_
    have r' := RpAll.ints (ns := [_, _]) r
    subst r'
    refine q p H2 ⟨_, _, ?_, ?_, ?_, h2⟩
    · split <;> omega
    · have := Int.emod_nonneg (c % 2147483549 * 40193 + 6299 * 0 + 97) (show (2147483563 : Int) ≠ 0 by decide)
      omega
    · have := Int.emod_lt_of_pos (c % 2147483549 * 40193 + 6299 * 0 + 97) (show (0 : Int) < 2147483563 by decide)
      omega
  refine ⟨.int 0, rfl, .ref a, rfl, a, ns.map V.int, rfl, .inl hS, 0, ((ns.map V.int).length : Int), rfl, rfl, decide ((0 : Int) < ((ns.map V.int).length : Int)), rfl, ?_⟩
  have ite_t : ∀ (A B : Prop), A → (if true = true then A else B) := fun A B h => by rw [if_pos rfl]; exact h
  have ite_f : ∀ (A B : Prop), B → (if false = true then A else B) := fun A B h => by rw [if_neg (by decide)]; exact h
  by_cases hl : (0 : Int) < ((ns.map V.int).length : Int)
  · rw [decide_eq_true hl]
    refine ite_t _ _ ?_
    cases ns with
    | nil => exact absurd hl (by decide)
    | cons n ns =>
      exact ⟨.ref a, rfl, .int 0, rfl, a, _, 0, .int n, rfl, rfl, hS, (show atI ((n :: ns).map V.int) ((0 : Nat) : Int) = some (.int n) from atI_nat rfl), n, rfl, rest _ (by split <;> omega)⟩
  · rw [decide_eq_false hl]
    refine ite_f _ _ ?_
    exact ⟨.int 0, rfl, 353, 0, rfl, rfl, .inr ⟨by decide, by decide⟩, 353 * 0, 139, rfl, rfl, rest _ (by decide)⟩
/-- a number below the size -/
def R__law_draw (ss : List Sl) (P : PyData → Prop) : Prop := ∃ n : Nat, ss = [.pot, .dat (.int (n : Int))] ∧ 1 ≤ n ∧ n ≤ 1000 ∧ ∀ k : Nat, k < n → P (.int (k : Int))
theorem cal__law_draw (F : C8.Def K mg "_law_draw" s_law_draw f fd) (bd : Binds K fd ["_law_pot_here", "_law_size"] []) (T : BI mg) : C8.Cal P w K mg base 1 "_law_draw" (spR K R__law_draw) [] := by
  have sc := sc_law_draw
  refine def_by F bd sc (by decide) (fun ss P h => by obtain ⟨p, rfl, _⟩ := h; rfl) fun cdv A outer s H E hr => ⟨_, (pss_cons (ps_if (pt_cmpR op_gt (pe_ix ix_list (pv 0) pe_int (fun _ _ => rfl)) pe_int (nomark _)) (pss_cons (ps_asg (pe_callB call_divmod (by rfl) T.divmod (by decide +kernel) (pa_cons (pe_ix ix_list (pv 0) pe_int (fun _ _ => rfl)) (pa_cons (pv 1) pa_nil))) (pg_tup rfl (pgs_cons (pg_sub (pv 0) pe_int set_list) (pgs_cons (pg_name (i := 2) sc.nd rfl (.inl rfl)) pgs_nil)))) (pss_one (ps_ret (pv 2)))) pss_nil) (pss_cons (ps_asg (pe_op op_mod (pe_callTy call_int1 (by rfl) T.int (by decide +kernel) (pa_cons (pe_op op_add (pe_op op_mul (pe_ix ix_list (pv 0) pe_int (fun _ _ => rfl)) pe_int) pe_int) pa_nil)) pe_int) (pg_sub (pv 0) pe_int set_list)) (pss_one (ps_ret (pe_op op_mod (pe_callTy call_int1 (by rfl) T.int (by decide +kernel) (pa_cons (pe_op op_fdiv (pe_op op_mod (pe_callTy call_int1 (by rfl) T.int (by decide +kernel) (pa_cons (pe_op op_mul (pe_ix ix_list (pv 0) pe_int (fun _ _ => rfl)) (pe_ix ix_list (pv 0) pe_int (fun _ _ => rfl))) pa_nil)) pe_int) pe_int) pa_nil)) (pv 1)))))), fun ss Pd h => ?_⟩
  obtain ⟨n, rfl, h1, h2, h⟩ := h
  have fin : ∀ x : Int, 0 ≤ x → x < (n : Int) → Pd (.int x) := fun x h1 h2 => by
    have := h x.toNat (by omega)
    rw [show ((x.toNat : Nat) : Int) = x by omega] at this
    exact this
  refine sd_seq (sd_ifP (P := fun _ => True) ?_ (fun _ => ?_) fun _ => sd_next ?_)
  · refine etp_test (ed_op (ed_pot0 rfl) (ex_int.ed (P := fun d => d = .int 0) rfl) fun d e hd he => ?_)
    obtain ⟨x, rfl, _⟩ := hd
    subst he
    exact ⟨_, rx_bl, _, rfl, trivial⟩
  · refine sd_seq (sd_potDiv rfl (ex_var rfl) (by omega) fun x x0 xn => ?_)
    exact sd_ret (ex_var rfl) (fin x x0 xn)
  · refine sd_seq (sd_pot1 rfl (ed_opI (a1 := 0) (b1 := 1152921504606846976) (a2 := 2147483563) (b2 := 2147483564) (ed_int1 (ed_opI0 (a1 := 0) (b1 := 152921504606846976) (a2 := 30047) (b2 := 30048) (ed_opI (a1 := 0) (b1 := 2147483564) (a2 := 39631) (b2 := 39632) (ed_pot1 rfl) (EX.nb ex_int (by decide) (by decide)) fun x y x1 x2 y1 y2 => ?_) (EX.nb ex_int (by decide) (by decide)) fun x y x1 x2 y1 y2 => ?_)) (EX.nb ex_int (by decide) (by decide)) fun x y x1 x2 y1 y2 => ?_) ?_)
    · have hy : y = 39631 := by omega
      subst hy
      exact ⟨.inr ⟨by decide, by decide⟩, by omega, by omega⟩
    · omega
    · have hy : y = 2147483563 := by omega
      subst hy
      exact ⟨by decide, Int.emod_nonneg _ (by decide), Int.emod_lt_of_pos _ (by decide)⟩
    · refine sd_retP (ed_opI (a1 := 0) (b1 := 93368850) (a2 := (n : Int)) (b2 := (n : Int) + 1) (lo := 0) (hi := (n : Int)) (ed_int1 (ed_opI (a1 := 0) (b1 := 2147483549) (a2 := 23) (b2 := 24) (ed_opI (a1 := 0) (b1 := 4611686018427387904) (a2 := 2147483549) (b2 := 2147483550) (ed_int1 (ed_opI (a1 := 0) (b1 := 2147483564) (a2 := 0) (b2 := 2147483564) (ed_pot1 rfl) (ed_pot1 rfl) fun x y x1 x2 y1 y2 => ?_)) (EX.nb ex_int (by decide) (by decide)) fun x y x1 x2 y1 y2 => ?_) (EX.nb ex_int (by decide) (by decide)) fun x y x1 x2 y1 y2 => ?_)) (EX.nb (ex_var rfl) (by omega) (by omega)) fun x y x1 x2 y1 y2 => ?_) fun d hd => ?_
      · refine ⟨.inl ⟨by omega, by omega⟩, Int.mul_nonneg x1 y1, ?_⟩
        have : x * y ≤ 2147483563 * 2147483563 := Int.mul_le_mul (by omega) (by omega) y1 (by decide)
        omega
      · have hy : y = 2147483549 := by omega
        subst hy
        exact ⟨by decide, Int.emod_nonneg _ (by decide), Int.emod_lt_of_pos _ (by decide)⟩
      · have hy : y = 23 := by omega
        subst hy
        exact ⟨⟨by decide, by decide⟩, by omega, by omega⟩
      · have hy : y = (n : Int) := by omega
        subst hy
        have := Int.emod_nonneg x (show (n : Int) ≠ 0 by omega)
        have := Int.emod_lt_of_pos x (show (0 : Int) < (n : Int) by omega)
        exact ⟨by omega, by omega, by omega⟩
      · obtain ⟨x, rfl, x0, xn⟩ := hd
        exact fin x x0 xn
/-- draw(pot, n) -/
theorem ed_draw {n : Nat} {te : TE} {ρ : Rho} {i : Nat} (hp : ρ[i]? = some .pot) (h : EX K te ρ (.int (n : Int))) (h1 : 1 ≤ n) (h2 : n ≤ 1000) : ED K (tCall (spR K R__law_draw) [] C8.E0 (tCons (tVar i) (tCons te tNil))) ρ fun d => ∃ k : Nat, d = .int (k : Int) ∧ k < n :=
  ed_call (ea_pot hp (ea_dat h ea_nil)) fun us e => ⟨n, e, h1, h2, fun k hk => ⟨k, rfl, hk⟩⟩
def R__law_pick (ss : List Sl) (P : PyData → Prop) : Prop := ∃ ds : List PyData, ss = [.pot, .dat (.list ds)] ∧ 1 ≤ ds.length ∧ ds.length ≤ 1000 ∧ ∀ d ∈ ds, P d
theorem cal__law_pick (F : C8.Def K mg "_law_pick" s_law_pick f fd) (bd : Binds K fd ["_law_pot_here", "_law_some"] []) (T : BI mg) (c__law_draw : C8.Cal P w K mg base 1 "_law_draw" (spR K R__law_draw) []) : C8.Cal P w K mg base 2 "_law_pick" (spR K R__law_pick) [] := by
  have sc := sc_law_pick
  refine def_by F bd sc (by decide) (fun ss P h => by obtain ⟨p, rfl, _⟩ := h; rfl) fun cdv A outer s H E hr => ⟨_, (pss_one (ps_ret (pe_ix ix_list (pv 1) (C8.pe_c c__law_draw hr (by decide) (by rfl) (pa_cons (pv 0) (pa_cons (pe_callB call_len_seq (by rfl) T.len (by decide +kernel) (pa_cons (pv 1) pa_nil)) pa_nil))) (fun _ _ => rfl)))), fun ss Pd h => ?_⟩
  obtain ⟨ds, rfl, h1, h2, h⟩ := h
  refine sd_retP (P := Pd) (ed_op (P1 := fun d => d = .list ds) (P2 := fun d => ∃ k : Nat, d = .int (k : Int) ∧ k < ds.length) (EX.ed (ex_var rfl) rfl) (ed_draw rfl (ex_cb (eax_cons (ex_var rfl) eax_nil) rcx_lenL) h1 h2) fun d e hd he => ?_) fun d hd => hd
  obtain ⟨k, rfl, hk⟩ := he
  subst hd
  exact ⟨ds[k], rx_ixL (atI_nat (List.getElem?_eq_getElem hk)), h _ (List.getElem_mem hk)⟩
/-- an order of n things -/
def R__law_order (ss : List Sl) (P : PyData → Prop) : Prop := ∃ n : Nat, ss = [.pot, .dat (.int (n : Int))] ∧ n ≤ 9 ∧ ∀ v : List Int, v.Perm (upTo n) → P (tI v)
theorem upTo_len (n : Nat) : (upTo n).length = n := by
  unfold upTo
  rw [List.length_map, List.length_range]
theorem erase_perm (ns : List Int) (k : Nat) (hk : k < ns.length) : (ns.getD k 0 :: ns.eraseIdx k).Perm ns := by
  induction ns generalizing k with
  | nil => exact absurd hk (by simp)
  | cons a ns ih =>
    cases k with
    | zero => exact .refl _
    | succ k =>
      have := ih k (by simpa using hk)
      exact ((List.Perm.swap a (ns.getD k 0) (ns.eraseIdx k)).trans (this.cons a))
theorem cal__law_order (F : C8.Def K mg "_law_order" s_law_order f fd) (bd : Binds K fd ["_law_pot_here", "_law_size"] []) (T : BI mg) (c__law_draw : C8.Cal P w K mg base 1 "_law_draw" (spR K R__law_draw) []) : C8.Cal P w K mg base 2 "_law_order" (spR K R__law_order) [] := by
  have sc := sc_law_order
  refine def_by F bd sc (by decide) (fun ss P h => by obtain ⟨p, rfl, _⟩ := h; rfl) fun cdv A outer s H E hr => ⟨_, (pss_cons (ps_par (i := 2) (j := 3) rfl sc.nd rfl rfl (by decide) rfl rfl (pa_cons (pe_listRg rfl (by rfl) T.list (prg_2 (by rfl) T.range pe_int (pe_op op_add (pv 1) pe_int))) (pa_cons (pe_lst pa_nil) pa_nil)) (by rfl)) (pss_cons (ps_for PassesOwn.never rfl (pi_range1 (by rfl) T.range (pa_cons (pv 1) pa_nil)) (pg_name (i := 4) sc.nd rfl (.inl rfl)) (pss_one (ps_expr (pe_bm PySem.F.plainAttrs_list PySem.F.slot_list_append PySem.F.type_list_append mt_append (pv 3) (pa_cons (pe_bm PySem.F.plainAttrs_list PySem.F.slot_list_pop PySem.F.type_list_pop mt_popAt (pv 2) (pa_cons (C8.pe_c c__law_draw hr (by decide) (by rfl) (pa_cons (pv 0) (pa_cons (pe_callB call_len_seq (by rfl) T.len (by decide +kernel) (pa_cons (pv 2) pa_nil)) pa_nil))) pa_nil)) pa_nil))))) (pss_one (ps_ret (pe_callTy call_tuple_of (by rfl) T.tuple (by decide +kernel) (pa_cons (pv 3) pa_nil)))))), fun ss Pd h => ?_⟩
  obtain ⟨n, rfl, h9, h⟩ := h
  refine sd_seq (sd_par (EL.toS (EL.is (el_rg2 ex_int (ex_op (ex_var rfl) ex_int rx_int) (by omega)) (show _ = (upTo n).map PyData.int by rw [show ((n : Int) + 1 - 1).toNat = n by omega]; exact rngD_upTo n))) (EL.toS (el_lst eax_nil (by decide))) ?_)
  refine sd_seq (sd_forN 0 n (fun i ρ' => ∃ ls fs s4, ρ' = [.pot, .dat (.int (n : Int)), .own (ls.map PyData.int), .own (fs.map PyData.int), s4] ∧ (fs ++ ls).Perm (upTo n) ∧ ls.length = n - i ∧ fs.length = i) (iw_rn1 (ex_var rfl) (by omega)) ⟨upTo n, [], .no, rfl, .refl _, by rw [upTo_len]; rfl, rfl⟩ ?_ ?_)
  · rintro i ρ' hi ⟨ls, fs, s4, rfl, hp, hl, hf⟩
    refine ⟨_, _, gd_name, ?_⟩
    refine sd_popApp (i := 2) (j := 3) (ns := ls) (fs := fs) rfl rfl (by decide) (by omega) (by omega) (ed_draw (n := ls.length) rfl (ex_frz 2 rfl rfl (EX.is (ex_cb (eax_cons (ex_var rfl) eax_nil) rcx_lenL) (by rw [List.length_map]))) (by omega) (by omega)) fun k hk => ?_
    refine ⟨ls.eraseIdx k, fs ++ [ls.getD k 0], _, rfl, ?_, ?_, ?_⟩
    · refine List.Perm.trans ?_ hp
      rw [List.append_assoc]
      exact List.Perm.append_left fs (erase_perm ls k hk)
    · rw [List.length_eraseIdx_of_lt hk]; omega
    · rw [List.length_append, List.length_singleton, hf]
  · rintro ρ' ⟨ls, fs, s4, rfl, hp, hl, hf⟩
    have e : ls = [] := List.length_eq_zero_iff.mp (by omega)
    subst e
    rw [List.append_nil] at hp
    exact sd_freeze 3 rfl (sd_ret (ex_cb (eax_cons (ex_var rfl) eax_nil) rcx_tupL) (h fs hp))
def R__law_passed (ss : List Sl) (P : PyData → Prop) : Prop := ∃ v : List Int, ss = [.pot, .dat (tI v)] ∧ P (tI v) ∧ P (lI v)
theorem cal__law_passed (F : C8.Def K mg "_law_passed" s_law_passed f fd) (bd : Binds K fd ["_law_pot_here", "_law_order_here"] []) (T : BI mg) (c__law_draw : C8.Cal P w K mg base 1 "_law_draw" (spR K R__law_draw) []) : C8.Cal P w K mg base 2 "_law_passed" (spR K R__law_passed) [] := by
  have sc := sc_law_passed
  refine def_by F bd sc (by decide) (fun ss P h => by obtain ⟨p, rfl, _⟩ := h; rfl) fun cdv A outer s H E hr => ⟨_, (pss_one (ps_ret (pe_ifExp (pt_cmpR op_eq (C8.pe_c c__law_draw hr (by decide) (by rfl) (pa_cons (pv 0) (pa_cons pe_int pa_nil))) pe_int (nomark _)) (pe_callTy call_list_of (by rfl) T.list (by decide +kernel) (pa_cons (pv 1) pa_nil)) (pe_callTy call_tuple_of (by rfl) T.tuple (by decide +kernel) (pa_cons (pv 1) pa_nil))))), fun ss Pd h => ?_⟩
  obtain ⟨v, rfl, h1, h2⟩ := h
  refine sd_retP (P := Pd) (ed_if (R := fun _ => True) (etp_test (ed_op (ed_draw (n := 2) rfl ex_int (by decide) (by decide)) (ex_int.ed (P := fun d => d = .int 0) rfl) fun d e hd he => ?_)) (fun _ => (EL.ex (el_cb (eax_cons (ex_var rfl) eax_nil) rcl_listT)).ed h2) fun _ => (ex_cb (eax_cons (ex_var rfl) eax_nil) rcx_tupT).ed h1) fun d hd => hd
  obtain ⟨k, rfl, _⟩ := hd
  subst he
  exact ⟨_, rx_eqI, _, rfl, trivial⟩
def R__law_raised (ss : List Sl) (P : PyData → Prop) : Prop := ∃ (v : List Int) (p : Nat) (t : Int), ss = [.dat (tI v), .dat (.int (p : Int)), .dat (.int t)] ∧ v.length ≤ 63 ∧ P (tI (raiseM v p t))
theorem cal__law_raised (F : C8.Def K mg "_law_raised" s_law_raised f fd) (bd : Binds K fd ["_law_order_here", "_law_place", "_law_thing"] []) (T : BI mg) : C8.Cal P w K mg base 1 "_law_raised" (spR K R__law_raised) [] := by
  have sc := sc_law_raised
  refine def_by F bd sc (by decide) (fun ss P h => by obtain ⟨p, _, _, rfl, _⟩ := h; rfl) fun cdv A outer s H E hr => ⟨_, (pss_cons (ps_set (i := 3) sc.nd rfl (.inl rfl) (pe_callTy call_tuple_of (by rfl) T.tuple (by decide +kernel) (pa_cons (pe_lc (own := [("_law_other", 4)]) rfl sc.nd (pi_tup (pv 0)) (blkOk_by (own := [("_law_other", 4)]) (N := N_law_raised) (sc := C8.fnScope s_law_raised) (by decide +kernel)) (fun _ _ _ _ _ => (pg_name (i := 4) sc.nd rfl (.inl rfl))) (fun _ _ _ _ _ => pts_nil) (fun _ _ _ _ _ => (pe_ifExp (pt_cmpR op_ge (pv 4) (pv 2) (nomark _)) (pe_op op_add (pv 4) pe_int) (pv 4)))) pa_nil))) (pss_one (ps_ret (pe_op op_catA (pe_op op_catA (pe_slice sl_tupA (pv 3) po_none (po_some (pv 1))) (pe_tup (pa_cons (pv 2) pa_nil))) (pe_slice sl_tupA (pv 3) (po_some (pv 1)) po_none))))), fun ss Pd h => ?_⟩
  obtain ⟨v, p, t, rfl, h63, h⟩ := h
  refine sd_seq (sd_asg (EX.toS (EX.is (ex_cb (eax_cons (EL.ex (el_lc v PyData.int (fun _ => true) (fun o => .int (if o ≥ t then o + 1 else o)) [4] (iw_tup (ex_var rfl)) (fun j h => h) (by omega) fun o ho => ⟨_, gd_name, et_yes, fun _ => ex_if (b := decide (o ≥ t)) (et_test (ex_op (ex_var rfl) (ex_var rfl) rx_bl)) (fun e => ?_) fun e => ?_⟩)) eax_nil) rcx_tupL)
    (show _ = tI (v.map fun o => if o ≥ t then o + 1 else o) from ?_))) ?_)
  · rw [if_pos (of_decide_eq_true e)]
    exact ex_op (ex_var rfl) ex_int rx_int
  · rw [if_neg (of_decide_eq_false e)]
    exact ex_var rfl
  · rw [List.filter_eq_self.mpr fun _ _ => rfl, tI, List.map_map]
    rfl
  · have lm : (v.map fun o => if o ≥ t then o + 1 else o).length ≤ 63 := by rw [List.length_map]; exact h63
    refine sd_ret (EX.is (ex_op (ex_op (ex_slI (ex_var rfl) eo_none (eo_some (ex_var rfl))) (ex_tup (eax_cons (ex_var rfl) eax_nil) (by show 1 ≤ 100000; decide)) (rx_catT ?_)) (ex_slI (ex_var rfl) (eo_some (ex_var rfl)) eo_none) (rx_catT ?_)) (show _ = tI (raiseM v p t) from ?_)) h
    · rw [cutI_hi, List.length_map, List.length_take, List.length_singleton]; omega
    · simp only [cutI_hi, cutI_lo, List.length_append, List.length_map, List.length_take, List.length_singleton, List.length_drop, List.length_cons, List.length_nil]; omega
    · rw [cutI_hi, cutI_lo]
      unfold raiseM
      rw [tI, List.map_append, List.map_append]
      rfl
def R__law_four (ss : List Sl) (P : PyData → Prop) : Prop := ss = [] ∧ P (lT fourL)
theorem cal__law_four (F : C8.Def K mg "_law_four" s_law_four f fd) (bd : Binds K fd [] []) (T : BI mg) : C8.Cal P w K mg base 1 "_law_four" (spR K R__law_four) [] := by
  have sc := sc_law_four
  refine def_by F bd sc (by decide) (fun ss P h => by obtain ⟨rfl, _⟩ := h; rfl) fun cdv A outer s H E hr => ⟨_, (pss_one (ps_ret (pe_lst (pa_cons (pe_tup (pa_cons pe_int (pa_cons pe_int (pa_cons pe_int (pa_cons pe_int pa_nil))))) (pa_cons (pe_tup (pa_cons pe_int (pa_cons pe_int (pa_cons pe_int (pa_cons pe_int (pa_cons pe_int pa_nil)))))) (pa_cons (pe_tup (pa_cons pe_int (pa_cons pe_int (pa_cons pe_int (pa_cons pe_int (pa_cons pe_int pa_nil)))))) (pa_cons (pe_tup (pa_cons pe_int (pa_cons pe_int (pa_cons pe_int (pa_cons pe_int (pa_cons pe_int (pa_cons pe_int pa_nil))))))) pa_nil))))))), fun ss Pd h => ?_⟩
  obtain ⟨rfl, h⟩ := h
  have t4 : ∀ {ρ : Rho} {a b c d : Int}, EX K (tTup (tCons (tC (.int a)) (tCons (tC (.int b)) (tCons (tC (.int c)) (tCons (tC (.int d)) tNil))))) ρ (tI [a, b, c, d]) := ex_tup (eax_cons ex_int (eax_cons ex_int (eax_cons ex_int (eax_cons ex_int eax_nil)))) (by show 4 ≤ 100000; decide)
  have t5 : ∀ {ρ : Rho} {a b c d e : Int}, EX K (tTup (tCons (tC (.int a)) (tCons (tC (.int b)) (tCons (tC (.int c)) (tCons (tC (.int d)) (tCons (tC (.int e)) tNil)))))) ρ (tI [a, b, c, d, e]) := ex_tup (eax_cons ex_int (eax_cons ex_int (eax_cons ex_int (eax_cons ex_int (eax_cons ex_int eax_nil))))) (by show 5 ≤ 100000; decide)
  have t6 : ∀ {ρ : Rho} {a b c d e f : Int}, EX K (tTup (tCons (tC (.int a)) (tCons (tC (.int b)) (tCons (tC (.int c)) (tCons (tC (.int d)) (tCons (tC (.int e)) (tCons (tC (.int f)) tNil))))))) ρ (tI [a, b, c, d, e, f]) := ex_tup (eax_cons ex_int (eax_cons ex_int (eax_cons ex_int (eax_cons ex_int (eax_cons ex_int (eax_cons ex_int eax_nil)))))) (by show 6 ≤ 100000; decide)
  exact sd_ret (EL.ex (el_lst (eax_cons t4 (eax_cons t5 (eax_cons t5 (eax_cons t6 eax_nil)))) (by show 4 ≤ 100000; decide))) h
end
end Kd

/-! The law's drawn orders, its corners, its board, all its orders. -/
namespace Kd
open PySem PySem.Spec PyProof.Rows L2 Evl

/-- all orders of n things -/
def allP (n : Nat) : List (List Int) := perms (upTo n)
theorem upTo_sorted (n : Nat) : (upTo n).Pairwise (· ≤ ·) := by
  unfold upTo
  refine List.pairwise_map.mpr ?_
  refine List.Pairwise.imp (fun {a b} h => ?_) (List.pairwise_lt_range (n := n))
  omega
theorem isOrd_perm {v : List Int} {n : Nat} (h : v.Perm (upTo n)) (h1 : 1 ≤ n) (h9 : n ≤ 9) : isOrd v = true := by
  have hl : v.length = n := by rw [h.length_eq, upTo_len]
  have e : isort v = upTo n := sorted_one ((isort_perm v).trans h) (isort_sorted v) (upTo_sorted n)
  unfold isOrd
  rw [hl, e, decide_eq_true h1, decide_eq_true h9, decide_eq_true rfl]
  rfl
theorem isOrd_at {v : List Int} (h : isOrd v = true) : (1 ≤ v.length ∧ v.length ≤ 9) ∧ v.Perm (upTo v.length) := by
  unfold isOrd at h
  simp only [Bool.and_eq_true, decide_eq_true_eq] at h
  exact ⟨⟨h.1, h.2.1⟩, by rw [← h.2.2]; exact (isort_perm v).symm⟩
theorem isOrd_all {v : List Int} (h : isOrd v = true) : v ∈ allP v.length := mem_perms _ _ (isOrd_at h).2
theorem raise_ok : ∀ n ∈ List.range 5, ∀ v ∈ allP n, ∀ p ∈ List.range (n + 1), ∀ k ∈ List.range (n + 1), isOrd (raiseM v p (1 + (k : Int))) = true ∧ (raiseM v p (1 + (k : Int))).length = n + 1 := by decide +kernel
theorem swp_ok2 : ∀ n ∈ List.range 6, ∀ v ∈ allP n, ∀ p ∈ List.range n, ∀ k ∈ List.range n, isOrd (swp v p k) = true ∧ (swp v p k).length = n := by decide +kernel
def cntM (v : List Int) (m : Nat) (k : Int) : Int := (((v.take m).filter fun t => decide (t ≥ k)).length : Int)
def lbB (v w : List Int) : Bool := (List.range' 1 (v.length - 1)).all fun m => (List.range' 2 (v.length - 1)).all fun k => !decide (cntM v m (k : Int) > cntM w m (k : Int))
def minL : List Int → Int
  | [] => 0
  | n :: ns => ns.foldl min n
def maxL : List Int → Int
  | [] => 0
  | n :: ns => ns.foldl max n
def onB (w v : List Int) : Bool := (List.range' 0 w.length).all fun i => !(decide (v.getD i 0 < minL (w.drop i)) || decide (v.getD i 0 > maxL (w.take (i + 1))))
def allS : Nat → List (List Int)
  | 0 => [[1]]
  | i + 1 => (allS i).flatMap fun o => (List.range' 0 (i + 2)).map fun p => raiseM o p ((i + 2 : Nat) : Int)
theorem allS_ok : ∀ i ∈ List.range 5, (allS i).length ≤ 120 ∧ ∀ v ∈ allS i, v.length ≤ 6 := by decide +kernel

section
variable {P : Program} {w : World} {K : PySem.W.Frag} {mg : Str → Option Value} {base : Heap} {f : Addr} {fd : FuncData}
abbrev s_law_drawn : Stmt := topS 72
abbrev N_law_drawn : List Str := ["_law_pot_here", "_law_most", "_law_way", "_law_order_here", "_law_turn", "_law_one", "_law_two", "_law_found"]
theorem sc_law_drawn : FnScope N_law_drawn ["_law_pot_here", "_law_most"] (C8.fnScope s_law_drawn) := C8.fnScope_by (by decide +kernel)
abbrev s_law_counted : Stmt := topS 73
abbrev N_law_counted : List Str := ["_law_order_here", "_law_m", "_law_k", "_law_thing"]
theorem sc_law_counted : FnScope N_law_counted ["_law_order_here", "_law_m", "_law_k"] (C8.fnScope s_law_counted) := C8.fnScope_by (by decide +kernel)
abbrev s_law_is_below : Stmt := topS 74
abbrev N_law_is_below : List Str := ["_law_order_here", "_law_other", "_law_size", "_law_m", "_law_k"]
theorem sc_law_is_below : FnScope N_law_is_below ["_law_order_here", "_law_other"] (C8.fnScope s_law_is_below) := C8.fnScope_by (by decide +kernel)
abbrev s_law_is_on : Stmt := topS 75
abbrev N_law_is_on : List Str := ["_law_order_here", "_law_laying", "_law_place"]
theorem sc_law_is_on : FnScope N_law_is_on ["_law_order_here", "_law_laying"] (C8.fnScope s_law_is_on) := C8.fnScope_by (by decide +kernel)
abbrev s_law_all : Stmt := topS 76
abbrev N_law_all : List Str := ["_law_size", "_law_whole", "_law_thing", "_law_longer", "_law_order_here", "_law_place"]
theorem sc_law_all : FnScope N_law_all ["_law_size"] (C8.fnScope s_law_all) := C8.fnScope_by (by decide +kernel)
def R__law_drawn (ss : List Sl) (P : PyData → Prop) : Prop := ss = [.pot, .dat (.int 5)] ∧ ∀ v : List Int, isOrd v = true → v.length ≤ 5 → P (tI v)
theorem cal__law_drawn (F : C8.Def K mg "_law_drawn" s_law_drawn f fd) (bd : Binds K fd ["_law_pot_here", "_law_most"] []) (T : BI mg) (c__law_draw : C8.Cal P w K mg base 1 "_law_draw" (spR K R__law_draw) []) (c__law_order : C8.Cal P w K mg base 2 "_law_order" (spR K R__law_order) [])
    (c__law_pick : C8.Cal P w K mg base 2 "_law_pick" (spR K R__law_pick) []) (c__law_four : C8.Cal P w K mg base 1 "_law_four" (spR K R__law_four) []) (c__law_raised : C8.Cal P w K mg base 1 "_law_raised" (spR K R__law_raised) []) : C8.Cal P w K mg base 3 "_law_drawn" (spR K R__law_drawn) [] := by
  have sc := sc_law_drawn
  refine def_by F bd sc (by decide) (fun ss P h => by obtain ⟨rfl, _⟩ := h; rfl) fun cdv A outer s H E hr => ⟨_, (pss_cons (ps_set (i := 2) sc.nd rfl (.inl rfl) (C8.pe_c c__law_draw hr (by decide) (by rfl) (pa_cons (pv 0) (pa_cons pe_int pa_nil)))) (pss_cons (ps_if (pt_cmpR op_lt (pv 2) pe_int (nomark _)) (pss_one (ps_ret (C8.pe_c c__law_order hr (by decide) (by rfl) (pa_cons (pv 0) (pa_cons (pe_op op_add pe_int (C8.pe_c c__law_draw hr (by decide) (by rfl) (pa_cons (pv 0) (pa_cons (pv 1) pa_nil)))) pa_nil))))) pss_nil) (pss_cons (ps_set (i := 3) sc.nd rfl (.inl rfl) (C8.pe_c c__law_pick hr (by decide) (by rfl) (pa_cons (pv 0) (pa_cons (pe_op op_cat (pe_c0 c__law_four hr (by decide) (by rfl)) (pe_lst (pa_cons (pe_tup (pa_cons pe_int (pa_cons pe_int (pa_cons pe_int (pa_cons pe_int pa_nil))))) pa_nil))) pa_nil)))) (pss_cons (ps_set (i := 3) sc.nd rfl (.inl rfl) (pe_ifExp (pt_cmpR op_le (pe_callB call_len_seq (by rfl) T.len (by decide +kernel) (pa_cons (pv 3) pa_nil)) (pv 1) (nomark _)) (pv 3) (pe_tup (pa_cons pe_int (pa_cons pe_int (pa_cons pe_int (pa_cons pe_int pa_nil))))))) (pss_cons (ps_for PassesOwn.never rfl (pi_range1 (by rfl) T.range (pa_cons (C8.pe_c c__law_draw hr (by decide) (by rfl) (pa_cons (pv 0) (pa_cons (pe_op op_add (pe_op op_sub (pv 1) (pe_callB call_len_seq (by rfl) T.len (by decide +kernel) (pa_cons (pv 3) pa_nil))) pe_int) pa_nil))) pa_nil)) (pg_name (i := 4) sc.nd rfl (.inl rfl)) (pss_one (ps_set (i := 3) sc.nd rfl (.inl rfl) (C8.pe_c c__law_raised hr (by decide) (by rfl) (pa_cons (pv 3) (pa_cons (C8.pe_c c__law_draw hr (by decide) (by rfl) (pa_cons (pv 0) (pa_cons (pe_op op_add (pe_callB call_len_seq (by rfl) T.len (by decide +kernel) (pa_cons (pv 3) pa_nil)) pe_int) pa_nil))) (pa_cons (pe_op op_add pe_int (C8.pe_c c__law_draw hr (by decide) (by rfl) (pa_cons (pv 0) (pa_cons (pe_op op_add (pe_callB call_len_seq (by rfl) T.len (by decide +kernel) (pa_cons (pv 3) pa_nil)) pe_int) pa_nil)))) pa_nil))))))) (pss_cons (ps_if (pt_cmpR op_eq (pv 2) pe_int (nomark _)) (pss_cons (ps_par3 (i := 5) (j := 6) (l := 7) rfl sc.nd rfl rfl rfl (by decide) (by decide) (by decide) rfl rfl rfl (pa_cons (C8.pe_c c__law_draw hr (by decide) (by rfl) (pa_cons (pv 0) (pa_cons (pe_callB call_len_seq (by rfl) T.len (by decide +kernel) (pa_cons (pv 3) pa_nil)) pa_nil))) (pa_cons (C8.pe_c c__law_draw hr (by decide) (by rfl) (pa_cons (pv 0) (pa_cons (pe_callB call_len_seq (by rfl) T.len (by decide +kernel) (pa_cons (pv 3) pa_nil)) pa_nil))) (pa_cons (pe_callTy call_list_of (by rfl) T.list (by decide +kernel) (pa_cons (pv 3) pa_nil)) pa_nil))) (by rfl)) (pss_cons (ps_asg (pe_tup (pa_cons (pe_ix ix_list (pv 7) (pv 6) (fun _ _ => rfl)) (pa_cons (pe_ix ix_list (pv 7) (pv 5) (fun _ _ => rfl)) pa_nil))) (pg_tup rfl (pgs_cons (pg_sub (pv 7) (pv 5) set_list) (pgs_cons (pg_sub (pv 7) (pv 6) set_list) pgs_nil)))) (pss_one (ps_set (i := 3) sc.nd rfl (.inl rfl) (pe_callTy call_tuple_of (by rfl) T.tuple (by decide +kernel) (pa_cons (pv 7) pa_nil)))))) pss_nil) (pss_one (ps_ret (pv 3))))))))), fun ss Pd h => ?_⟩
  obtain ⟨rfl, h⟩ := h
  refine sd_seq (sd_asgP (ed_draw (n := 5) rfl ex_int (by decide) (by decide)) fun d hd => ?_)
  obtain ⟨way, rfl, hway⟩ := hd
  refine sd_seq (sd_if (b := decide ((way : Int) < 2)) (et_test (ex_op (ex_var rfl) ex_int rx_bl)) (fun _ => ?_) fun _ => sd_next ?_)
  · refine sd_retP (P := Pd) (ed_call (RS := fun us => ∃ n : Nat, us = [.pot, .dat (.int (n : Int))] ∧ 1 ≤ n ∧ n ≤ 5) (ea_potP rfl (P := fun d => ∃ n : Nat, d = .int (n : Int) ∧ 1 ≤ n ∧ n ≤ 5) (ed_op (P1 := fun d => d = .int 1) (ex_int.ed rfl) (ed_draw (n := 5) rfl (ex_var rfl) (by decide) (by decide)) fun d e hd he => ?_) fun d ⟨n, hn, h1, h2⟩ => ⟨n, by rw [hn], h1, h2⟩) fun us ⟨n, hn, h1, h2⟩ => ⟨n, hn, by omega, fun v hv => h v (isOrd_perm hv h1 (by omega)) (by rw [hv.length_eq, upTo_len]; exact h2)⟩) fun d hd => hd
    obtain ⟨k, rfl, hk⟩ := he
    subst hd
    exact ⟨_, rx_int, 1 + k, by rw [Int.natCast_add]; rfl, by omega, by omega⟩
  refine sd_seq (sd_asgP (P := fun d => ∃ v, d = tI v ∧ isOrd v = true) (ed_call (ea_pot rfl (ea_dat (EL.ex (el_op (ex_call0 ⟨rfl, rfl⟩) (EL.ex (el_lst (eax_cons (d := tI [3, 4, 1, 2]) (ex_tup (eax_cons ex_int (eax_cons ex_int (eax_cons ex_int (eax_cons ex_int eax_nil)))) (by show 4 ≤ 100000; decide)) eax_nil) (by show 1 ≤ 100000; decide))) (rxl_cat (by decide)))) ea_nil)) fun us e => ⟨_, e, by decide, by decide, fun d hd => ?_⟩) fun d hd => ?_)
  · have : d ∈ (fourL ++ [[3, 4, 1, 2]]).map tI := hd
    obtain ⟨v, hv, rfl⟩ := List.mem_map.mp this
    have hall : ∀ v ∈ fourL ++ [[3, 4, 1, 2]], isOrd v = true := by decide +kernel
    exact ⟨v, rfl, hall v hv⟩
  obtain ⟨v0, rfl, ho0⟩ := hd
  refine sd_seq (sd_asg (EX.toS (d := tI (if v0.length ≤ 5 then v0 else [4, 2, 3, 1])) (ex_if (b := decide ((v0.length : Int) ≤ 5)) (et_test (ex_op (ex_cb (eax_cons (ex_var rfl) eax_nil) (rcx_lenI (.inl rfl))) (ex_var rfl) rx_bl)) (fun e => ?_) fun e => ?_)) ?_)
  · have := of_decide_eq_true e
    rw [if_pos (by omega)]
    exact ex_var rfl
  · have := of_decide_eq_false e
    rw [if_neg (by omega)]
    exact ex_tup (eax_cons ex_int (eax_cons ex_int (eax_cons ex_int (eax_cons ex_int eax_nil)))) (by show 4 ≤ 100000; decide)
  have hv1 : isOrd (if v0.length ≤ 5 then v0 else [4, 2, 3, 1]) = true ∧ (if v0.length ≤ 5 then v0 else [4, 2, 3, 1]).length ≤ 5 := by
    split
    · exact ⟨ho0, by assumption⟩
    · exact ⟨by decide +kernel, by decide⟩
  generalize (if v0.length ≤ 5 then v0 else [4, 2, 3, 1]) = v1 at hv1
  obtain ⟨ho1, hl1⟩ := hv1
  refine sd_seq (sd_for (iw_rng1Q (M := 5 - v1.length + 1) (ed_draw (n := 5 - v1.length + 1) rfl (EX.is (ex_op (ex_op (ex_var rfl) (ex_cb (eax_cons (ex_var rfl) eax_nil) (rcx_lenI (.inl rfl))) rx_int) ex_int rx_int) (congrArg PyData.int (by omega))) (by omega) (by omega)) (by omega)) fun ds hds => ?_)
  obtain ⟨n, hn, rfl⟩ := hds
  refine ⟨fun i ρ' => ∃ v s4 s5 s6 s7, ρ' = [.pot, .dat (.int 5), .dat (.int (way : Int)), .dat (tI v), s4, s5, s6, s7] ∧ s7.owns = false ∧ isOrd v = true ∧ v.length ≤ v1.length + i, ⟨v1, .no, .no, .no, .no, rfl, rfl, ho1, Nat.le_refl _⟩, ?_, ?_⟩
  · rintro i d ρ' hd ⟨v, s4, s5, s6, s7, rfl, o7, ho, hl⟩
    have hi : i < n := by
      have := (List.getElem?_eq_some_iff.mp hd).1
      rw [List.length_map, List.length_range'] at this
      exact this
    refine ⟨_, _, gd_name, ?_⟩
    have hlen : ∀ {ρ : Rho}, ρ[3]? = some (.dat (tI v)) → EX K (tOp (rI0 fun i j => .int (i + j)) (tCB (fun xs H Q => ∃ p ys, xs = [.ref p] ∧ (SqL K H p ys ∨ SqT K H p ys) ∧ Q (.int ys.length) H) (tCons (tVar 3) tNil)) (tC (.int 1))) ρ (.int ((v.length + 1 : Nat) : Int)) := fun e => EX.is (ex_op (ex_cb (eax_cons (ex_var e) eax_nil) (rcx_lenI (.inl rfl))) ex_int rx_int) (by rw [Int.natCast_add]; rfl)
    refine sd_asgP (P := fun d => ∃ u, d = tI u ∧ isOrd u = true ∧ u.length = v.length + 1) (ed_call (RS := fun us => ∃ p k : Nat, us = [.dat (tI v), .dat (.int (p : Int)), .dat (.int (1 + (k : Int)))] ∧ p < v.length + 1 ∧ k < v.length + 1)
      (ea_datP (EX.ed (P := fun d => d = tI v) (ex_var rfl) rfl) (ea_datP (ed_draw (n := v.length + 1) rfl (hlen rfl) (by omega) (by omega)) (ea_datP (P := fun d => ∃ k : Nat, d = .int (1 + (k : Int)) ∧ k < v.length + 1) (ed_op (P1 := fun d => d = .int 1) (ex_int.ed rfl) (ed_draw (n := v.length + 1) rfl (hlen rfl) (by omega) (by omega)) fun d e hd he => ?_) ea_nil (R' := fun us => ∃ k : Nat, us = [.dat (.int (1 + (k : Int)))] ∧ k < v.length + 1) fun d us hd hu => ?_)
        (R' := fun us => ∃ p k : Nat, us = [.dat (.int (p : Int)), .dat (.int (1 + (k : Int)))] ∧ p < v.length + 1 ∧ k < v.length + 1) fun d us hd hu => ?_) fun d us hd hu => ?_) fun us hu => ?_) fun d hd => ?_
    · obtain ⟨k, rfl, hk⟩ := he
      subst hd
      exact ⟨_, rx_int, k, rfl, hk⟩
    · obtain ⟨k, rfl, hk⟩ := hd
      subst hu
      exact ⟨k, rfl, hk⟩
    · obtain ⟨p, rfl, hp⟩ := hd
      obtain ⟨k, rfl, hk⟩ := hu
      exact ⟨p, k, rfl, hp, hk⟩
    · obtain ⟨p, k, rfl, hp, hk⟩ := hu
      subst hd
      exact ⟨p, k, rfl, hp, hk⟩
    · obtain ⟨p, k, rfl, hp, hk⟩ := hu
      have := raise_ok v.length (List.mem_range.mpr (by omega)) v (isOrd_all ho) p (List.mem_range.mpr hp) k (List.mem_range.mpr hk)
      exact ⟨v, p, _, rfl, by omega, _, rfl, this.1, this.2⟩
    · obtain ⟨u, rfl, hu1, hu2⟩ := hd
      exact ⟨u, _, s5, s6, s7, rfl, o7, hu1, by omega⟩
  · rintro ρ' ⟨v, s4, s5, s6, s7, rfl, o7, ho, hl⟩
    rw [List.length_map, List.length_range'] at hl
    have hl5 : v.length ≤ 5 := by omega
    have h1 := (isOrd_at ho).1.1
    refine sd_seq (sd_if (b := decide ((way : Int) = 4)) (et_test (ex_op (ex_var rfl) ex_int rx_eqI)) (fun _ => ?_) fun _ => sd_next (sd_ret (ex_var rfl) (h v ho hl5)))
    have hlen : ∀ {ρ : Rho}, ρ[3]? = some (.dat (tI v)) → EX K (tCB (fun xs H Q => ∃ p ys, xs = [.ref p] ∧ (SqL K H p ys ∨ SqT K H p ys) ∧ Q (.int ys.length) H) (tCons (tVar 3) tNil)) ρ (.int (v.length : Int)) := fun e => ex_cb (eax_cons (ex_var e) eax_nil) (rcx_lenI (.inl rfl))
    refine sd_seq (sd_par3P (ed_draw (n := v.length) rfl (hlen rfl) (by omega) (by omega)) (ed_draw (n := v.length) rfl (hlen rfl) (by omega) (by omega)) (el_cb (eax_cons (ex_var rfl) eax_nil) rcl_listT) fun d e hd he => ?_)
    obtain ⟨a, rfl, ha⟩ := hd
    obtain ⟨b, rfl, hb⟩ := he
    have lm : (v.map PyData.int).length = v.length := List.length_map _
    refine sd_seq (sd_swap (k1 := a) (k2 := b) rfl (ex_frz 7 rfl rfl (ex_op (ex_var rfl) (ex_var rfl) (rx_ixL (atI_int hb)))) (ex_frz 7 rfl rfl (ex_op (ex_var rfl) (ex_var rfl) (rx_ixL (atI_int ha)))) (ex_var rfl) (ixN_nat (by rw [lm]; exact ha)) (ex_var rfl) (ixN_nat (by rw [lm]; exact hb)) ?_)
    have ok := swp_ok2 v.length (List.mem_range.mpr (by omega)) v (isOrd_all ho) a (List.mem_range.mpr ha) b (List.mem_range.mpr hb)
    refine sd_freeze 7 rfl (sd_asg (EX.toS (EX.is (ex_cb (eax_cons (ex_var rfl) eax_nil) rcx_tupL) (show _ = tI (swp v a b) from ?_))) ?_)
    · unfold swp
      rw [tI, List.map_set, List.map_set]
    · exact sd_ret (ex_var rfl) (h _ ok.1 (by omega))
def R__law_counted (ss : List Sl) (P : PyData → Prop) : Prop := ∃ (v : List Int) (m : Nat) (k : Int), ss = [.dat (tI v), .dat (.int (m : Int)), .dat (.int k)] ∧ v.length ≤ 63 ∧ P (.int (cntM v m k))
theorem cal__law_counted (F : C8.Def K mg "_law_counted" s_law_counted f fd) (bd : Binds K fd ["_law_order_here", "_law_m", "_law_k"] []) (T : BI mg) : C8.Cal P w K mg base 1 "_law_counted" (spR K R__law_counted) [] := by
  have sc := sc_law_counted
  refine def_by F bd sc (by decide) (fun ss P h => by obtain ⟨_, _, _, rfl, _⟩ := h; rfl) fun cdv A outer s H E hr => ⟨_, (pss_one (ps_ret (pe_callB call_len_seq (by rfl) T.len (by decide +kernel) (pa_cons (pe_lc (own := [("_law_thing", 3)]) rfl sc.nd (pi_tup (pe_slice sl_tupA (pv 0) po_none (po_some (pv 1)))) (blkOk_by (own := [("_law_thing", 3)]) (N := N_law_counted) (sc := C8.fnScope s_law_counted) (by decide +kernel)) (fun _ _ _ _ _ => (pg_name (i := 3) sc.nd rfl (.inl rfl))) (fun _ _ _ _ _ => (pts_one (pt_cmpR op_ge (pv 3) (pv 2) (nomark _)))) (fun _ _ _ _ _ => (pv 3))) pa_nil)))), fun ss Pd h => ?_⟩
  obtain ⟨v, m, k, rfl, h63, h⟩ := h
  refine sd_ret (EX.is (ex_cb (eax_cons (EL.ex (el_lc (v.take m) PyData.int (fun t => decide (t ≥ k)) PyData.int [3] (IW.is (iw_tup (ex_slI (ex_var rfl) eo_none (eo_some (ex_var rfl)))) (by rw [cutI_hi])) (fun j h => h) (by rw [List.length_take]; omega) fun t ht => ⟨_, gd_name, et_test (ex_op (ex_var rfl) (ex_var rfl) rx_bl), fun _ => ex_var rfl⟩)) eax_nil) rcx_lenL) ?_) h
  rw [List.length_map]
  rfl
def R__law_is_below (ss : List Sl) (P : PyData → Prop) : Prop := ∃ v w : List Int, ss = [.dat (tI v), .dat (tI w)] ∧ 1 ≤ v.length ∧ v.length ≤ 63 ∧ w.length ≤ 63 ∧ P (.bool (lbB v w))
theorem cal__law_is_below (F : C8.Def K mg "_law_is_below" s_law_is_below f fd) (bd : Binds K fd ["_law_order_here", "_law_other"] []) (T : BI mg) (c__law_counted : C8.Cal P w K mg base 1 "_law_counted" (spR K R__law_counted) []) : C8.Cal P w K mg base 2 "_law_is_below" (spR K R__law_is_below) [] := by
  have sc := sc_law_is_below
  refine def_by F bd sc (by decide) (fun ss P h => by obtain ⟨_, _, rfl, _⟩ := h; rfl) fun cdv A outer s H E hr => ⟨_, (pss_cons (ps_set (i := 2) sc.nd rfl (.inl rfl) (pe_callB call_len_seq (by rfl) T.len (by decide +kernel) (pa_cons (pv 0) pa_nil))) (pss_cons (ps_for PassesOwn.never rfl (pi_range2 (by rfl) T.range (pa_cons pe_int (pa_cons (pv 2) pa_nil))) (pg_name (i := 3) sc.nd rfl (.inl rfl)) (pss_one (ps_for PassesOwn.never rfl (pi_range2 (by rfl) T.range (pa_cons pe_int (pa_cons (pe_op op_add (pv 2) pe_int) pa_nil))) (pg_name (i := 4) sc.nd rfl (.inl rfl)) (pss_one (ps_if (pt_cmpR op_gt (C8.pe_c c__law_counted hr (by decide) (by rfl) (pa_cons (pv 0) (pa_cons (pv 3) (pa_cons (pv 4) pa_nil)))) (C8.pe_c c__law_counted hr (by decide) (by rfl) (pa_cons (pv 1) (pa_cons (pv 3) (pa_cons (pv 4) pa_nil)))) (nomark _)) (pss_one (ps_ret pe_bl)) pss_nil))))) (pss_one (ps_ret pe_bl)))), fun ss Pd h => ?_⟩
  obtain ⟨v, w, rfl, h1, h63, hw, h⟩ := h
  refine sd_seq (sd_asg (EX.toS (ex_cb (eax_cons (ex_var rfl) eax_nil) (rcx_lenI (.inl rfl)))) ?_)
  refine sd_seq (sd_forAll (List.range' 1 (v.length - 1)) (fun k : Nat => .int (k : Int)) (fun m => (List.range' 2 (v.length - 1)).all fun k => !decide (cntM v m (k : Int) > cntM w m (k : Int))) (fun ρ' => ∃ s3 s4, ρ' = [.dat (tI v), .dat (tI w), .dat (.int (v.length : Int)), s3, s4])
    (iw_rn2 (a := 1) ex_int (ex_var rfl) (by omega)) ⟨_, _, rfl⟩ ?_ ?_)
  · rintro m hm ρ' ⟨s3, s4, rfl⟩
    refine ⟨_, _, gd_name, ?_⟩
    refine sd_forAll (List.range' 2 (v.length - 1)) (fun k : Nat => .int (k : Int)) (fun k => !decide (cntM v m (k : Int) > cntM w m (k : Int))) (fun ρ' => ∃ s4, ρ' = [.dat (tI v), .dat (tI w), .dat (.int (v.length : Int)), .dat (.int (m : Int)), s4])
      (IW.is (iw_rn2 (a := 2) (b := v.length + 1) ex_int (EX.is (ex_op (ex_var rfl) ex_int rx_int) (by rw [Int.natCast_add]; rfl)) (by omega)) (by rw [show v.length + 1 - 2 = v.length - 1 by omega])) ⟨_, rfl⟩ ?_ ?_
    · rintro k hk ρ' ⟨s4, rfl⟩
      refine ⟨_, _, gd_name, ?_⟩
      refine sd_if (b := decide (cntM v m (k : Int) > cntM w m (k : Int))) (et_test (ex_op (ex_call (ea_dat (ex_var rfl) (ea_dat (ex_var rfl) (ea_dat (ex_var rfl) ea_nil))) ⟨v, m, _, rfl, h63, rfl⟩) (ex_call (ea_dat (ex_var rfl) (ea_dat (ex_var rfl) (ea_dat (ex_var rfl) ea_nil))) ⟨w, m, _, rfl, hw, rfl⟩) rx_bl)) (fun e => sd_ret ex_bl ?_) fun e => sd_next ⟨⟨_, rfl⟩, by rw [e]; rfl⟩
      have e1 : lbB v w = false := by
        unfold lbB
        refine List.all_eq_false.mpr ⟨m, hm, ?_⟩
        intro ha
        have := List.all_eq_true.mp ha k hk
        rw [e] at this
        exact nomatch this
      rw [e1] at h
      exact h
    · rintro ha ρ' ⟨s4, rfl⟩
      exact ⟨⟨_, s4, rfl⟩, ha⟩
  · rintro ha ρ' ⟨s3, s4, rfl⟩
    have e1 : lbB v w = true := ha
    rw [e1] at h
    exact sd_ret ex_bl h
def R__law_is_on (ss : List Sl) (P : PyData → Prop) : Prop := ∃ w v : List Int, ss = [.dat (tI w), .dat (tI v)] ∧ w.length ≤ 63 ∧ w.length ≤ v.length ∧ P (.bool (onB w v))
theorem cal__law_is_on (F : C8.Def K mg "_law_is_on" s_law_is_on f fd) (bd : Binds K fd ["_law_order_here", "_law_laying"] []) (T : BI mg) : C8.Cal P w K mg base 1 "_law_is_on" (spR K R__law_is_on) [] := by
  have sc := sc_law_is_on
  refine def_by F bd sc (by decide) (fun ss P h => by obtain ⟨_, _, rfl, _⟩ := h; rfl) fun cdv A outer s H E hr => ⟨_, (pss_cons (ps_for PassesOwn.never rfl (pi_range1 (by rfl) T.range (pa_cons (pe_callB call_len_seq (by rfl) T.len (by decide +kernel) (pa_cons (pv 0) pa_nil)) pa_nil)) (pg_name (i := 2) sc.nd rfl (.inl rfl)) (pss_one (ps_if (PW.pt (pw_or (pt_cmpR op_lt (pe_ix ix_tup (pv 1) (pv 2) (fun _ _ => rfl)) (pe_callB (cr_minT rfl hr.units) (by rfl) T.min (by decide +kernel) (pa_cons (pe_slice sl_tupA (pv 0) (po_some (pv 2)) po_none) pa_nil)) (nomark _)) (pw_or1 (pt_cmpR op_gt (pe_ix ix_tup (pv 1) (pv 2) (fun _ _ => rfl)) (pe_callB (cr_maxT rfl hr.units) (by rfl) T.max (by decide +kernel) (pa_cons (pe_slice sl_tupA (pv 0) po_none (po_some (pe_op op_add (pv 2) pe_int))) pa_nil)) (nomark _))))) (pss_one (ps_ret pe_bl)) pss_nil))) (pss_one (ps_ret pe_bl))), fun ss Pd h => ?_⟩
  obtain ⟨w, v, rfl, h63, hl, h⟩ := h
  refine sd_seq (sd_forAll (List.range' 0 w.length) (fun k : Nat => .int (k : Int)) (fun i => !(decide (v.getD i 0 < minL (w.drop i)) || decide (v.getD i 0 > maxL (w.take (i + 1))))) (fun ρ' => ∃ s2, ρ' = [.dat (tI w), .dat (tI v), s2])
    (iw_rn1 (EX.is (ex_cb (eax_cons (ex_var rfl) eax_nil) (rcx_lenI (.inl rfl))) rfl) (by omega)) ⟨_, rfl⟩ ?_ ?_)
  · rintro i hi ρ' ⟨s2, rfl⟩
    have hi' := List.mem_range'_1.mp hi
    refine ⟨_, _, gd_name, ?_⟩
    have hmin : ∀ {ρ : Rho}, ρ[0]? = some (.dat (tI w)) → ρ[2]? = some (.dat (.int (i : Int))) → EX K (tCB (rMinT K) (tCons (tSl (rSlA K) (tVar 0) (tPart (tVar 2)) tNoPart) tNil)) ρ (.int (minL (w.drop i))) := fun e1 e2 => by
      have es : ∀ {ρ : Rho}, ρ[0]? = some (.dat (tI w)) → ρ[2]? = some (.dat (.int (i : Int))) → EX K (tSl (rSlA K) (tVar 0) (tPart (tVar 2)) tNoPart) ρ (tI (w.drop i)) := fun e1 e2 => EX.is (ex_slI (ex_var e1) (eo_some (ex_var e2)) eo_none) (by rw [cutI_lo])
      cases hd : w.drop i with
      | nil =>
        have := congrArg List.length hd
        rw [List.length_drop, List.length_nil] at this
        omega
      | cons a l => exact ex_cb (eax_cons (EX.is (es e1 e2) (by rw [hd])) eax_nil) rcx_minT
    have hmax : ∀ {ρ : Rho}, ρ[0]? = some (.dat (tI w)) → ρ[2]? = some (.dat (.int (i : Int))) → EX K (tCB (rMaxT K) (tCons (tSl (rSlA K) (tVar 0) tNoPart (tPart (tOp (rI0 fun i j => .int (i + j)) (tVar 2) (tC (.int 1))))) tNil)) ρ (.int (maxL (w.take (i + 1)))) := fun e1 e2 => by
      have es : ∀ {ρ : Rho}, ρ[0]? = some (.dat (tI w)) → ρ[2]? = some (.dat (.int (i : Int))) → EX K (tSl (rSlA K) (tVar 0) tNoPart (tPart (tOp (rI0 fun i j => .int (i + j)) (tVar 2) (tC (.int 1))))) ρ (tI (w.take (i + 1))) := fun e1 e2 => EX.is (ex_slI (ex_var e1) eo_none (eo_some (x := ((i + 1 : Nat) : Int)) (EX.is (ex_op (ex_var e2) ex_int rx_int) (by rw [Int.natCast_add]; rfl)))) (by rw [cutI_hi])
      cases hd : w.take (i + 1) with
      | nil =>
        have := congrArg List.length hd
        rw [List.length_take, List.length_nil] at this
        omega
      | cons a l => exact ex_cb (eax_cons (EX.is (es e1 e2) (by rw [hd])) eax_nil) rcx_maxT
    refine sd_if (b := decide (v.getD i 0 < minL (w.drop i)) || decide (v.getD i 0 > maxL (w.take (i + 1)))) (et_or (et_test (ex_op (ex_op (ex_var rfl) (ex_var rfl) (rx_ixT (atI_int (by omega)))) (hmin rfl rfl) rx_bl)) fun _ => et_test (ex_op (ex_op (ex_var rfl) (ex_var rfl) (rx_ixT (atI_int (by omega)))) (hmax rfl rfl) rx_bl)) (fun e => sd_ret ex_bl ?_) fun e => sd_next ⟨⟨_, rfl⟩, by rw [e]; rfl⟩
    have e1 : onB w v = false := by
      unfold onB
      refine List.all_eq_false.mpr ⟨i, hi, ?_⟩
      rw [e]
      decide
    rw [e1] at h
    exact h
  · rintro ha ρ' ⟨s2, rfl⟩
    have e1 : onB w v = true := ha
    rw [e1] at h
    exact sd_ret ex_bl h
def R__law_all (ss : List Sl) (P : PyData → Prop) : Prop := ∃ n : Nat, ss = [.dat (.int (n : Int))] ∧ 1 ≤ n ∧ n ≤ 5 ∧ P (lT (allS (n - 1)))
theorem cal__law_all (F : C8.Def K mg "_law_all" s_law_all f fd) (bd : Binds K fd ["_law_size"] []) (T : BI mg) (c__law_raised : C8.Cal P w K mg base 1 "_law_raised" (spR K R__law_raised) []) : C8.Cal P w K mg base 2 "_law_all" (spR K R__law_all) [] := by
  have sc := sc_law_all
  refine def_by F bd sc (by decide) (fun ss P h => by obtain ⟨_, rfl, _⟩ := h; rfl) fun cdv A outer s H E hr => ⟨_, (pss_cons (ps_set (i := 1) sc.nd rfl (.inl rfl) (pe_lst (pa_cons (pe_tup (pa_cons pe_int pa_nil)) pa_nil))) (pss_cons (ps_for PassesOwn.never rfl (pi_range2 (by rfl) T.range (pa_cons pe_int (pa_cons (pe_op op_add (pv 0) pe_int) pa_nil))) (pg_name (i := 2) sc.nd rfl (.inr rfl)) (pss_cons (ps_set (i := 3) sc.nd rfl (.inl rfl) (pe_lst pa_nil)) (pss_cons (ps_for PassesOwn.never rfl (pi_list (pv 1)) (pg_name (i := 4) sc.nd rfl (.inr rfl)) (pss_one (ps_expr (pe_bm PySem.F.plainAttrs_list PySem.F.slot_list_extend PySem.F.type_list_extend mt_extend (pv 3) (pa_cons (pe_lc (own := [("_law_place", 5)]) rfl sc.nd (pi_range1 (by rfl) T.range (pa_cons (pv 2) pa_nil)) (blkOk_by (own := [("_law_place", 5)]) (N := N_law_all) (sc := C8.fnScope s_law_all) (by decide +kernel)) (fun _ _ _ _ _ => (pg_name (i := 5) sc.nd rfl (.inl rfl))) (fun _ _ _ _ _ => pts_nil) (fun _ _ _ _ _ => (C8.pe_c c__law_raised hr (by decide) (by rfl) (pa_cons (pv 4) (pa_cons (pv 5) (pa_cons (pv 2) pa_nil)))))) pa_nil))))) (pss_one (ps_set (i := 1) sc.nd rfl (.inl rfl) (pv 3)))))) (pss_one (ps_ret (pv 1))))), fun ss Pd h => ?_⟩
  obtain ⟨n, rfl, h1, h5, h⟩ := h
  refine sd_seq (sd_asg (EX.toS (d := lT [[1]]) (EL.ex (el_lst (eax_cons (ex_tup (eax_cons ex_int eax_nil) (by show 1 ≤ 100000; decide)) eax_nil) (by show 1 ≤ 100000; decide)))) ?_)
  refine sd_seq (sd_forN 2 (n - 1) (fun i ρ' => ∃ s2 s3 s4 s5, ρ' = [.dat (.int (n : Int)), .dat (lT (allS i)), s2, s3, s4, s5])
    (IW.is (iw_rn2 (a := 2) (b := n + 1) ex_int (EX.is (ex_op (ex_var rfl) ex_int rx_int) (by rw [Int.natCast_add]; rfl)) (by omega)) (by rw [show n + 1 - 2 = n - 1 by omega])) ⟨_, _, _, _, rfl⟩ ?_ ?_)
  · rintro i ρ' hi ⟨s2, s3, s4, s5, rfl⟩
    have hok := allS_ok i (List.mem_range.mpr (by omega))
    refine ⟨_, _, gd_name, ?_⟩
    refine sd_seq (sd_asg (EL.toS (el_lst eax_nil (by decide))) ?_)
    have e2 : ((2 + i : Nat) : Int) = ((i + 2 : Nat) : Int) := by rw [Nat.add_comm]
    rw [e2]
    refine sd_seq (sd_forX (allS i) tI (fun j ρ' => ∃ s4 s5, ρ' = [.dat (.int (n : Int)), .dat (lT (allS i)), .dat (.int ((i + 2 : Nat) : Int)), .own ((((allS i).take j).flatMap fun o => (List.range' 0 (i + 2)).map fun p => raiseM o p ((i + 2 : Nat) : Int)).map tI), s4, s5]) (iw_list (ex_var rfl)) ⟨s4, s5, rfl⟩ ?_ ?_)
    · rintro j o ρ' ho hj ⟨s4, s5, rfl⟩
      refine ⟨_, _, gd_name, ?_⟩
      have tk : (allS i).take (j + 1) = (allS i).take j ++ [o] := by
        rw [List.take_add_one, ho]
        rfl
      refine sd_extend (es := ((List.range' 0 (i + 2)).map fun p => raiseM o p ((i + 2 : Nat) : Int)).map tI) rfl (EL.is (el_lc (List.range' 0 (i + 2)) (fun k : Nat => .int (k : Int)) (fun _ => true) (fun p => tI (raiseM o p ((i + 2 : Nat) : Int))) [5] (iw_rn1 (ex_var rfl) (by omega)) (fun j h => h) (by rw [List.length_range']; omega) fun p hp => ⟨_, gd_name, et_yes, fun _ => ex_call (ea_dat (ex_var rfl) (ea_dat (ex_var rfl) (ea_dat (ex_var rfl) ea_nil))) ⟨o, p, _, rfl, ?_, rfl⟩⟩) ?_) ?_ ?_
      · have := hok.2 o (List.mem_of_getElem? ho)
        omega
      · rw [List.filter_eq_self.mpr fun _ _ => rfl, List.map_map]
        rfl
      · have := flat_len (fun o => (List.range' 0 (i + 2)).map fun p => raiseM o p ((i + 2 : Nat) : Int)) (i + 2) (fun o => by rw [List.length_map, List.length_range']; exact Nat.le_refl _) ((allS i).take j)
        rw [List.length_map, List.length_map, List.length_map, List.length_range']
        have h2 : ((allS i).take j).length ≤ 120 := by rw [List.length_take]; omega
        have h3 : ((allS i).take j).length * (i + 2) ≤ 120 * 7 := Nat.mul_le_mul h2 (by omega)
        omega
      · refine ⟨.dat (tI o), s5, ?_⟩
        rw [tk, List.flatMap_append, List.map_append, List.flatMap_cons, List.flatMap_nil, List.append_nil]
        rfl
    · rintro ρ' ⟨s4, s5, rfl⟩
      rw [List.take_length]
      exact sd_freeze 3 rfl (sd_asg (EX.toS (ex_var rfl)) ⟨_, _, s4, s5, rfl⟩)
  · rintro ρ' ⟨s2, s3, s4, s5, rfl⟩
    exact sd_ret (ex_var rfl) h
end
end Kd

/-! What the law asks of one order, as a check. -/
namespace Kd
open PySem PySem.Spec PyProof.Rows L2 Evl

abbrev wholeL (w : List Int) : List (List Int) := allS (w.length - 1)
abbrev onL (w : List Int) : List (List Int) := (wholeL w).filter (onB w)
abbrev outL (w : List Int) : List (List Int) := (wholeL w).filter (bydB w)
def okA (w : List Int) : Bool := brdB (boardM w) && (brdOk (boardM w) && (paperOk w && !bydB w (List.replicate w.length 0)))
def okB (w : List Int) : Bool := (wholeL w).all fun v => bydB w v == (onB w v && !lbB v w)
def okC (w : List Int) (out : List (List Int)) : Bool := match paperM w with
  | none => decide (out = [])
  | some v => hasI out v
def okD (w : List Int) : Bool := match howM (boardM w) with
  | none => false
  | some r => decide (r = ((onL w).length : Int))
def okE (w : List Int) : Bool := match belowM w with
  | none => false
  | some bl => decide ((bl.length : Int) = ((onL w).length : Int) - ((outL w).length : Int))
def oneOk (w : List Int) : Bool := okA w && (okB w && (okC w (outL w) && (okD w && okE w)))
end Kd

/-! The law of one order. -/
namespace Kd
open PySem PySem.Spec PyProof.Rows L2 Evl

theorem allS_len : ∀ i ∈ List.range 5, ∀ v ∈ allS i, v.length = i + 1 := by decide +kernel
theorem canLayAll_bools : ∀ bs : List Bool, PyData.canLayAll0 (bs.map PyData.bool) = true
  | [] => by simp [PyData.canLayAll0]
  | b :: bs => by
    rw [List.map_cons]
    simp [PyData.canLayAll0, PyData.canLay0, canLayAll_bools bs]
theorem depthAll_bools : ∀ bs : List Bool, PyData.depthAll (bs.map PyData.bool) = 0
  | [] => by simp [PyData.depthAll]
  | b :: bs => by
    rw [List.map_cons]
    simp [PyData.depthAll, PyData.depth, depthAll_bools bs]
theorem shaped_bools (bs : List Bool) : SeqAt.shaped (.list (bs.map PyData.bool)) = true := by
  unfold SeqAt.shaped
  have h := depthAll_bools bs
  simp [PyData.canLay0, canLayAll_bools, PyData.depth, h]
theorem eqvAll_bools : ∀ bs : List Bool, PyData.eqvAll (bs.map PyData.bool) (bs.map PyData.bool) = true
  | [] => by simp [PyData.eqvAll]
  | b :: bs => by
    rw [List.map_cons]
    cases b <;> simp [PyData.eqvAll, PyData.eqv, eqvAll_bools bs]
theorem eqv_bools (bs : List Bool) : PyData.eqv (.list (bs.map PyData.bool)) (.list (bs.map PyData.bool)) = true := by
  simp [PyData.eqv, eqvAll_bools]

section
variable {P : Program} {w : World} {K : PySem.W.Frag} {mg : Str → Option Value} {base : Heap} {f : Addr} {fd : FuncData} {ρ : Rho} {ta tb te : TE} {d : PyData} {Pp : PyData → Prop} {E : DE} {i j : Nat}
theorem sd_parTP (h1 : EX K ta ρ d) (h2 : ED K tb ρ Pp) (k : ∀ e, Pp e → E.nx ((ρ.set i (.dat d)).set j (.dat e))) : SD K (tAsg (tTup (tCons ta (tCons tb tNil))) (gTup K 2 (gCons (gName i) (gCons (gName j) gNil)))) ρ E := fun m G0 H0 G σ H D S O =>
  h1 m G0 H0 G σ H S _ fun v G1 H1 x1 r1 => h2 m G0 H0 G1 σ H1 (S.step x1) _ fun w e G2 H2 x2 r2 p2 => ⟨by show 2 ≤ sizeLine; decide, fun t ht => ⟨t, [v, w], rfl, .inl (.inl upd_same), rfl, v, [w], rfl, w, [], rfl, rfl, by
    have x3 := Xt.new0 (m := m) (o := .tup [v, w]) x2.gh ht
    exact O.nx G2 _ _ _ (((((S.step x1).step x2).step x3).setD i (r1.mono x2.gg)).setD j r2) (k e p2)⟩⟩
theorem ex_dnewT : EX K tDNewT ρ (.dict []) := fun m G0 H0 G σ H S Q q p hp => q _ _ _ (Xt.new S.xt.gh hp) (Rp.dT (ks := []) (xs := []) (ds := []) rfl upd_same .nil)
theorem units65 {k : Nat} {A : Around} (r : Room k A) : A.units + 65 < cLine := by
  have := r.un
  omega
theorem out_eq {w : List Int} (hB : okB w = true) : (onL w).filter (fun v => !lbB v w) = outL w := by
  unfold onL outL
  rw [List.filter_filter]
  refine List.filter_congr fun v hv => ?_
  have := List.all_eq_true.mp hB v hv
  rw [beq_iff_eq.mp this, Bool.and_comm]
theorem bd10 {v : List Int} (h : isOrd v = true) : TS.Bd 10 v := fun x hx => by
  obtain ⟨⟨_, h9⟩, hp⟩ := isOrd_at h
  have := hp.mem_iff.mp hx
  unfold upTo at this
  obtain ⟨k, hk, rfl⟩ := List.mem_map.mp this
  have := List.mem_range.mp hk
  omega
theorem map_c {α β : Type} (l : List α) (b : β) : l.map (fun _ => b) = List.replicate l.length b := by
  induction l with
  | nil => rfl
  | cons a l ih => rw [List.map_cons, ih, List.length_cons, List.replicate_succ]
def someL (w : List Int) (o3 : List (List Int)) : List (PyData × Bool) := o3.map (fun v => (lI v, true)) ++ [(tI (raiseM w 0 1), false), (tI (w.drop 1), false), (.none, false), (.bool true, false), (.str "4231", false), (.dict [], false), (lI [], false), (lI (List.replicate w.length 0), false)]
theorem some_right {w : List Int} {o3 : List (List Int)} (ho : isOrd w = true) (h62 : w.length ≤ 50) (a1 : brdB (boardM w) = true) (a4 : bydB w (List.replicate w.length 0) = false) (htk : ∀ v ∈ o3, bydB w v = true ∧ v.length = w.length) : ∀ x ∈ someL w o3, R_is_beyond [.dat (tI w), .dat x.1] fun e => e = .bool x.2 := fun x hx => by
  have h1 := (isOrd_at ho).1.1
  have short : ∀ v : List Int, v.length ≠ w.length → bydB w v = false := fun v hv => by
    unfold bydB
    rw [decide_eq_false hv]
    simp
  refine ⟨tI w, w, x.1, rfl, .inl rfl, by omega, ho, a1, ?_⟩
  unfold someL at hx
  rcases List.mem_append.mp hx with hx | hx
  · obtain ⟨v, hv, rfl⟩ := List.mem_map.mp hx
    obtain ⟨b, l⟩ := htk v hv
    exact .inl ⟨v, .inr rfl, by omega, by rw [b]⟩
  simp only [List.mem_cons, List.not_mem_nil, or_false] at hx
  rcases hx with rfl | rfl | rfl | rfl | rfl | rfl | rfl | rfl
  · have l : (raiseM w 0 1).length = w.length + 1 := by
      unfold raiseM
      simp
    exact .inl ⟨_, .inl rfl, by omega, by rw [short _ (by omega)]⟩
  · have l : (w.drop 1).length = w.length - 1 := List.length_drop
    exact .inl ⟨_, .inl rfl, by omega, by rw [short _ (by omega)]⟩
  · exact .inr ⟨by decide, rfl⟩
  · exact .inr ⟨by decide, rfl⟩
  · exact .inr ⟨by decide, rfl⟩
  · exact .inr ⟨by decide, rfl⟩
  · exact .inl ⟨[], .inr rfl, by decide, by rw [short [] (by show 0 ≠ w.length; omega)]⟩
  · exact .inl ⟨_, .inr rfl, by rw [List.length_replicate]; omega, by rw [a4]⟩
abbrev s_law_one_right : Stmt := topS 77
abbrev N_law_one_right : List Str := ["_law_pot_here", "_law_order_here", "_law_whole", "_law_passed_here", "_law_on", "_law_out", "_law_told", "_law_some", "_law_due", "_law_other", "_law_thing"]
theorem sc_law_one_right : FnScope N_law_one_right ["_law_pot_here", "_law_order_here"] (C8.fnScope s_law_one_right) := C8.fnScope_by (by decide +kernel)
def R__law_one_right (ss : List Sl) (P : PyData → Prop) : Prop := ∃ w : List Int, ss = [.pot, .dat (tI w)] ∧ isOrd w = true ∧ w.length ≤ 5 ∧ oneOk w = true ∧ P (.bool true)
theorem cal__law_one_right (F : C8.Def K mg "_law_one_right" s_law_one_right f fd) (bd : Binds K fd ["_law_pot_here", "_law_order_here"] []) (T : BI mg) (c_is_beyond : C8.Cal P w K mg base 6 "is_beyond" (spR K R_is_beyond) []) (k_is_beyond : CalK P w K mg base 6 "is_beyond" (spR K R_is_beyond) ["value", "order"] fun zs => zs.reverse)
    (c__law_raised : C8.Cal P w K mg base 1 "_law_raised" (spR K R__law_raised) []) (c_all_below : C8.Cal P w K mg base 7 "all_below" (spR K R_all_below) []) (c_how_many : C8.Cal P w K mg base 5 "how_many" (spR K R_how_many) []) (c_board_of : C8.Cal P w K mg base 4 "board_of" (spR K R_board_of) [])
    (c_is_free : C8.Cal P w K mg base 5 "is_free" (spR K R_is_free) []) (c_beyond : C8.Cal P w K mg base 6 "beyond" (spR K R_beyond) []) (c__law_is_below : C8.Cal P w K mg base 2 "_law_is_below" (spR K R__law_is_below) []) (c__law_is_on : C8.Cal P w K mg base 1 "_law_is_on" (spR K R__law_is_on) [])
    (c__law_passed : C8.Cal P w K mg base 2 "_law_passed" (spR K R__law_passed) []) (c__law_all : C8.Cal P w K mg base 2 "_law_all" (spR K R__law_all) []) : C8.Cal P w K mg base 8 "_law_one_right" (spR K R__law_one_right) [] := by
  have sc := sc_law_one_right
  refine def_by F bd sc (by decide) (fun ss P h => by obtain ⟨_, rfl, _⟩ := h; rfl) fun cdv A outer s H E hr => ⟨_, (pss_cons (ps_asg (pe_tup (pa_cons (C8.pe_c c__law_all hr (by decide) (by rfl) (pa_cons (pe_callB call_len_seq (by rfl) T.len (by decide +kernel) (pa_cons (pv 1) pa_nil)) pa_nil)) (pa_cons (C8.pe_c c__law_passed hr (by decide) (by rfl) (pa_cons (pv 0) (pa_cons (pv 1) pa_nil))) pa_nil))) (pg_tup rfl (pgs_cons (pg_name (i := 2) sc.nd rfl (.inl rfl)) (pgs_cons (pg_name (i := 3) sc.nd rfl (.inr rfl)) pgs_nil)))) (pss_cons (ps_setLc (i := 4) (own := [("_law_other", 9)]) rfl sc.nd rfl rfl (sw_true rfl rfl rfl (by decide +kernel)) (pi_list (pv 2)) (blkOk_by (own := [("_law_other", 9)]) (N := N_law_one_right) (sc := C8.fnScope s_law_one_right) (by decide +kernel)) (fun _ _ _ _ _ => (pg_name (i := 9) sc.nd rfl (.inl rfl))) (fun _ _ _ _ _ => (pts_one (pt_val (C8.pe_c c__law_is_on hr (by decide) (by rfl) (pa_cons (pv 1) (pa_cons (pv 9) pa_nil)))))) (fun _ _ _ _ _ => (pv 9))) (pss_cons (ps_setLc (i := 5) (own := [("_law_other", 9)]) rfl sc.nd rfl rfl (sw_true rfl rfl rfl (by decide +kernel)) (pi_list (pv 4)) (blkOk_by (own := [("_law_other", 9)]) (N := N_law_one_right) (sc := C8.fnScope s_law_one_right) (by decide +kernel)) (fun _ _ _ _ _ => (pg_name (i := 9) sc.nd rfl (.inl rfl))) (fun _ _ _ _ _ => (pts_one (pt_not (pt_val (C8.pe_c c__law_is_below hr (by decide) (by rfl) (pa_cons (pv 9) (pa_cons (pv 1) pa_nil))))))) (fun _ _ _ _ _ => (pv 9))) (pss_cons (ps_set (i := 6) sc.nd rfl (.inl rfl) (C8.pe_c c_beyond hr (by decide) (by rfl) (pa_cons (pv 3) pa_nil))) (pss_cons (ps_if (PW.pt (pw_or (pt_cmpR op_ne (pe_cmpR op_isN (pv 6) pe_non (nomark _)) (pe_cmpR (op_eqD hr.units) (pv 5) (pe_lst pa_nil) (nomark _)) (nomark _)) (pw_or (PW.pt (pw_and (pt_cmpR op_notN (pv 6) pe_non (nomark _)) (pw_and1 (pt_cmpR (op_notInD (units65 hr)) (pv 6) (pv 5) (by rfl))))) (pw_or1 (pt_cmpR op_ne (C8.pe_c c_is_free hr (by decide) (by rfl) (pa_cons (pv 1) pa_nil)) (pe_cmpR (op_eqD hr.units) (pv 5) (pe_lst pa_nil) (nomark _)) (nomark _)))))) (pss_one (ps_ret pe_bl)) pss_nil) (pss_cons (ps_if (pt_cmpR (op_neD hr.units) (pe_lc (own := [("_law_other", 9)]) rfl sc.nd (pi_list (pv 2)) (blkOk_by (own := [("_law_other", 9)]) (N := N_law_one_right) (sc := C8.fnScope s_law_one_right) (by decide +kernel)) (fun _ _ _ _ _ => (pg_name (i := 9) sc.nd rfl (.inl rfl))) (fun _ _ _ _ _ => (pts_one (pt_val (C8.pe_c c_is_beyond hr (by decide) (by rfl) (pa_cons (pv 3) (pa_cons (pv 9) pa_nil)))))) (fun _ _ _ _ _ => (pv 9))) (pv 5) (nomark _)) (pss_one (ps_ret pe_bl)) pss_nil) (pss_cons (ps_if (PW.pt (pw_or (pt_cmpR op_ne (C8.pe_c c_how_many hr (by decide) (by rfl) (pa_cons (C8.pe_c c_board_of hr (by decide) (by rfl) (pa_cons (pv 1) pa_nil)) pa_nil)) (pe_callB call_len_seq (by rfl) T.len (by decide +kernel) (pa_cons (pv 4) pa_nil)) (nomark _)) (pw_or1 (pt_cmpR op_ne (pe_callB call_len_seq (by rfl) T.len (by decide +kernel) (pa_cons (C8.pe_c c_all_below hr (by decide) (by rfl) (pa_cons (pv 1) pa_nil)) pa_nil)) (pe_op op_sub (pe_callB call_len_seq (by rfl) T.len (by decide +kernel) (pa_cons (pv 4) pa_nil)) (pe_callB call_len_seq (by rfl) T.len (by decide +kernel) (pa_cons (pv 5) pa_nil))) (nomark _))))) (pss_one (ps_ret pe_bl)) pss_nil) (pss_cons (ps_set (i := 7) sc.nd rfl (.inl rfl) (pe_op op_cat (pe_lc (own := [("_law_other", 9)]) rfl sc.nd (pi_list (pe_slice sl_list (pv 5) po_none (po_some pe_int))) (blkOk_by (own := [("_law_other", 9)]) (N := N_law_one_right) (sc := C8.fnScope s_law_one_right) (by decide +kernel)) (fun _ _ _ _ _ => (pg_name (i := 9) sc.nd rfl (.inl rfl))) (fun _ _ _ _ _ => pts_nil) (fun _ _ _ _ _ => (pe_callTy (call_list_ofK (K := K) rfl) (by rfl) T.list (by decide +kernel) (pa_cons (pv 9) pa_nil)))) (pe_lst (pa_cons (C8.pe_c c__law_raised hr (by decide) (by rfl) (pa_cons (pv 1) (pa_cons pe_int (pa_cons pe_int pa_nil)))) (pa_cons (pe_slice sl_tupA (pv 1) (po_some pe_int) po_none) (pa_cons pe_non (pa_cons pe_bl (pa_cons pe_str (pa_cons pe_dnewT (pa_cons (pe_lst pa_nil) (pa_cons (pe_op op_rep (pe_lst (pa_cons pe_int pa_nil)) (pe_callB call_len_seq (by rfl) T.len (by decide +kernel) (pa_cons (pv 1) pa_nil))) pa_nil))))))))))) (pss_cons (ps_set (i := 8) sc.nd rfl (.inl rfl) (pe_op op_cat (pe_op op_rep (pe_lst (pa_cons pe_bl pa_nil)) (pe_callB call_len_seq (by rfl) T.len (by decide +kernel) (pa_cons (pe_slice sl_list (pv 5) po_none (po_some pe_int)) pa_nil))) (pe_op op_rep (pe_lst (pa_cons pe_bl pa_nil)) pe_int))) (pss_one (ps_ret (pe_and (pe_cmpR (op_eqD hr.units) (pe_lc (own := [("_law_thing", 10)]) rfl sc.nd (pi_list (pv 7)) (blkOk_by (own := [("_law_thing", 10)]) (N := N_law_one_right) (sc := C8.fnScope s_law_one_right) (by decide +kernel)) (fun _ _ _ _ _ => (pg_name (i := 10) sc.nd rfl (.inl rfl))) (fun _ _ _ _ _ => pts_nil) (fun _ _ _ _ _ => (pe_kw k_is_beyond hr (by decide) (by rfl) (pk_cons (pv 10) (pk_cons (pv 1) pk_nil))))) (pv 8) (nomark _)) (pe_one (pe_cmpR (op_eqD hr.units) (pe_callTy call_tuple_of (by rfl) T.tuple (by decide +kernel) (pa_cons (pv 3) pa_nil)) (pv 1) (nomark _))))))))))))))), fun ss Pd h => ?_⟩
  obtain ⟨w, rfl, ho, h5, hok, h⟩ := h
  have h1 := (isOrd_at ho).1.1
  unfold oneOk at hok
  simp only [Bool.and_eq_true] at hok
  obtain ⟨hA, hB, hC, hD, hE⟩ := hok
  unfold okA at hA
  simp only [Bool.and_eq_true, Bool.not_eq_true'] at hA
  obtain ⟨a1, a2, a3, a4⟩ := hA
  have hall := allS_ok (w.length - 1) (List.mem_range.mpr (by omega))
  have hlen : ∀ v ∈ wholeL w, v.length = w.length := fun v hv => by
    have := allS_len (w.length - 1) (List.mem_range.mpr (by omega)) v hv
    omega
  have hwl : (wholeL w).length ≤ 120 := hall.1
  have honl : (onL w).length ≤ 120 := Nat.le_trans (List.length_filter_le _ _) hwl
  have houtl : (outL w).length ≤ 120 := Nat.le_trans (List.length_filter_le _ _) hwl
  refine sd_seq (sd_parTP (ex_call (ea_dat (ex_cb (eax_cons (ex_var rfl) eax_nil) (rcx_lenI (.inl rfl))) ea_nil) ⟨w.length, rfl, h1, h5, rfl⟩) (ed_call (P := fun d => d = tI w ∨ d = lI w) (ea_pot rfl (ea_dat (ex_var rfl) ea_nil)) fun us e => ⟨w, e, .inl rfl, .inr rfl⟩) fun dp hdp => ?_)
  refine sd_seq (sd_asg (EX.toS (EL.ex (el_lc (wholeL w) tI (onB w) tI [9] (iw_list (ex_var rfl)) (fun j h => h) (by omega) fun v hv => ⟨_, gd_name, et_B (ex_call (ea_dat (ex_var rfl) (ea_dat (ex_var rfl) ea_nil)) ⟨w, v, rfl, by omega, by rw [hlen v hv]; exact Nat.le_refl _, rfl⟩), fun _ => ex_var rfl⟩))) ?_)
  refine sd_seq (sd_asg (EX.toS (EL.ex (EL.is (el_lc (onL w) tI (fun v => !lbB v w) tI [9] (iw_list (ex_var rfl)) (fun j h => h) (by omega) fun v hv => ⟨_, gd_name, et_not (et_B (ex_call (ea_dat (ex_var rfl) (ea_dat (ex_var rfl) ea_nil)) ⟨v, w, rfl, ?_, ?_, by omega, rfl⟩)), fun _ => ex_var rfl⟩) (show _ = (outL w).map tI by rw [out_eq hB])))) ?_)
  · rw [hlen v (List.mem_filter.mp hv).1]; exact h1
  · rw [hlen v (List.mem_filter.mp hv).1]; omega
  refine sd_seq (sd_asg (EX.toS (ex_call (ea_dat (ex_var rfl) ea_nil) ⟨dp, w, rfl, hdp, by omega, ho, a3, rfl⟩)) ?_)
  have eqO : PyData.eqv (lT (outL w)) (.list []) = decide (outL w = []) := by rw [← eqv_lT (outL w) []]; rfl
  refine sd_seq (sd_if (b := false) ?_ (fun e => nomatch e) fun _ => sd_next ?_)
  · unfold okC at hC
    have hpw : (paperM w).isNone = (wayM w fourL).isNone := by
      unfold paperM
      cases wayM w fourL <;> rfl
    cases hp : paperM w with
    | none =>
      rw [hp] at hC hpw
      have hC : outL w = [] := of_decide_eq_true hC
      refine ET.is (et_or (et_test (ex_op (ex_op (ex_var rfl) ex_non rx_isN) (ex_op (ex_var rfl) (EL.ex (el_lst eax_nil (by decide))) (rx_eqD (shaped_lT _) (shaped_lT []))) rx_neB)) fun _ => et_or (et_and (b := false) (c := true) (ET.is (et_test (ex_op (ex_var rfl) ex_non rx_notN)) rfl) fun z => nomatch z) fun _ => et_test (ex_op (ex_call (ea_dat (ex_var rfl) ea_nil) ⟨_, w, rfl, .inl rfl, by omega, ho, rfl⟩) (ex_op (ex_var rfl) (EL.ex (el_lst eax_nil (by decide))) (rx_eqD (shaped_lT _) (shaped_lT []))) rx_neB)) ?_
      rw [eqO, hC, ← hpw]
      rfl
    | some v =>
      rw [hp] at hC hpw
      have hC : hasI (outL w) v = true := hC
      have hne : decide (outL w = []) = false := by
        refine decide_eq_false fun z => ?_
        rw [z] at hC
        exact nomatch hC
      have hany : ((outL w).map tI).any (fun z => PyData.eqv z (tI v)) = true := by
        rw [List.any_map, ← hC]
        unfold hasI
        congr 1
        funext q
        exact eqv_tI q v
      refine ET.is (et_or (et_test (ex_op (ex_op (ex_var rfl) ex_non rx_isN) (ex_op (ex_var rfl) (EL.ex (el_lst eax_nil (by decide))) (rx_eqD (shaped_lT _) (shaped_lT []))) rx_neB)) fun _ => et_or (et_and (et_test (ex_op (ex_var rfl) ex_non rx_notN)) fun _ => et_test (ex_op (ex_var rfl) (ex_var rfl) (rx_notInD (d := optI (some v)) (shaped_tI v) (shaped_lT _)))) fun _ => et_test (ex_op (ex_call (ea_dat (ex_var rfl) ea_nil) ⟨_, w, rfl, .inl rfl, by omega, ho, rfl⟩) (ex_op (ex_var rfl) (EL.ex (el_lst eax_nil (by decide))) (rx_eqD (shaped_lT _) (shaped_lT []))) rx_neB)) ?_
      rw [eqO, hne, ← hpw, show ((outL w).map tI).any (fun z => PyData.eqv z (optI (some v))) = true from hany]
      rfl
  refine sd_seq (sd_if (b := false) (ET.is (et_test (ex_op (EL.ex (el_lc (wholeL w) tI (bydB w) tI [9] (iw_list (ex_var rfl)) (fun j h => h) (by omega) fun v hv => ⟨_, gd_name, et_B (ex_call (ea_dat (ex_var rfl) (ea_dat (ex_var rfl) ea_nil)) ⟨dp, w, _, rfl, hdp, by omega, ho, a1, .inl ⟨v, .inl rfl, by rw [hlen v hv]; omega, rfl⟩⟩), fun _ => ex_var rfl⟩)) (ex_var rfl) (rx_neD (shaped_lT _) (shaped_lT _)))) ?_) (fun e => nomatch e) fun _ => sd_next ?_)
  · rw [show PyData.eqv (PyData.list (((wholeL w).filter (bydB w)).map tI)) (PyData.list ((outL w).map tI)) = decide (outL w = outL w) from eqv_lT _ _, decide_eq_true rfl]
    rfl
  unfold okD at hD
  unfold okE at hE
  cases hh : howM (boardM w) with
  | none =>
    rw [hh] at hD
    exact nomatch hD
  | some r =>
  cases hb : belowM w with
  | none =>
    rw [hb] at hE
    exact nomatch hE
  | some bl =>
  rw [hh] at hD
  rw [hb] at hE
  have hD := of_decide_eq_true hD
  have hE := of_decide_eq_true hE
  refine sd_seq (sd_if (b := false) (ET.is (et_or (et_test (ex_op (ex_call (ea_dat (ex_call (ea_dat (ex_var rfl) ea_nil) ⟨_, w, rfl, .inl rfl, by omega, ho, rfl⟩) ea_nil) ⟨boardM w, r, rfl, by rw [boardM_len]; omega, a1, a2, hh, rfl⟩) (ex_cb (eax_cons (ex_var rfl) eax_nil) rcx_lenL) rx_neI)) fun _ =>
    et_test (ex_op (ex_cb (eax_cons (ex_call (ea_dat (ex_var rfl) ea_nil) ⟨_, w, bl, rfl, .inl rfl, ho, ⟨h1, by omega⟩, bd10 ho, hb, rfl⟩) eax_nil) rcx_lenL) (ex_op (ex_cb (eax_cons (ex_var rfl) eax_nil) rcx_lenL) (ex_cb (eax_cons (ex_var rfl) eax_nil) rcx_lenL) rx_int) rx_neI)) ?_) (fun e => nomatch e) fun _ => sd_next ?_)
  · rw [List.length_map, List.length_map, List.length_map, decide_eq_true hD, decide_eq_true hE]
    rfl
  have htk : ∀ v ∈ (outL w).take 3, bydB w v = true ∧ v.length = w.length := fun v hv => by
    have hm := List.mem_filter.mp (List.mem_of_mem_take hv)
    exact ⟨hm.2, hlen v hm.1⟩
  have et3 : ((outL w).map tI).take 3 = ((outL w).take 3).map tI := by rw [List.map_take]
  have sl3 : ∀ {ρ : Rho}, ρ[5]? = some (.dat (lT (outL w))) → EX K (tSl (rSlL K) (tVar 5) tNoPart (tPart (tC (.int 3)))) ρ (lT ((outL w).take 3)) := fun e => EL.ex (EL.is (el_slL (ex_var e) eo_none (eo_some ex_int)) (by
    show cutI ((outL w).map tI) none (some ((3 : Nat) : Int)) = _
    rw [cutI_hi, et3]))
  refine sd_seq (sd_asg (EX.toS (EL.ex (el_op (EL.ex (EL.is (el_lc ((outL w).take 3) tI (fun _ => true) lI [9] (iw_list (sl3 rfl)) (fun j h => h) (by rw [List.length_take]; omega) fun v hv => ⟨_, gd_name, et_yes, fun _ => EL.ex (el_cb (eax_cons (ex_var rfl) eax_nil) rcl_listT)⟩) (show _ = ((outL w).take 3).map lI by rw [List.filter_eq_self.mpr fun _ _ => rfl])))
    (EL.ex (el_lst (eax_cons (ex_call (d := tI (raiseM w 0 1)) (ea_dat (ex_var rfl) (ea_dat ex_int (ea_dat ex_int ea_nil))) ⟨w, 0, 1, rfl, by omega, rfl⟩) (eax_cons (d := tI (w.drop 1)) (EX.is (ex_slI (ex_var rfl) (eo_some ex_int) eo_none) (by rw [show (some (1 : Int)) = some ((1 : Nat) : Int) from rfl, cutI_lo])) (eax_cons ex_non (eax_cons ex_bl (eax_cons ex_str (eax_cons ex_dnewT (eax_cons (d := lI []) (EL.ex (el_lst eax_nil (by decide)))
      (eax_cons (d := lI (List.replicate w.length 0)) (EL.ex (EL.is (el_op (EL.ex (el_lst (eax_cons ex_int eax_nil) (by show 1 ≤ 100000; decide))) (ex_cb (eax_cons (ex_var rfl) eax_nil) (rcx_lenI (.inl rfl))) (rxl_rep (by omega))) (by rw [List.map_replicate]))) eax_nil)))))))) (by show 8 ≤ 100000; decide))) (rxl_cat (by rw [List.length_map, List.length_take]; show _ + 8 ≤ 100000; omega))))) ?_)
  refine sd_seq (sd_asg (EX.toS (EL.ex (el_op (EL.ex (el_op (EL.ex (el_lst (eax_cons ex_bl eax_nil) (by show 1 ≤ 100000; decide))) (EX.is (ex_cb (eax_cons (sl3 rfl) eax_nil) rcx_lenL) (by rw [List.length_map])) (rxl_rep (n := ((outL w).take 3).length) (by rw [List.length_take]; omega)))) (EL.ex (el_op (EL.ex (el_lst (eax_cons ex_bl eax_nil) (by show 1 ≤ 100000; decide))) ex_int (rxl_rep (n := 8) (by decide)))) (rxl_cat (by rw [List.length_replicate, List.length_replicate, List.length_take]; omega))))) ?_)
  have h3l : ((outL w).take 3).length ≤ 3 := by rw [List.length_take]; omega
  generalize (outL w).take 3 = o3 at htk h3l
  have due : List.replicate o3.length (PyData.bool true) ++ List.replicate 8 (PyData.bool false) = ((someL w o3).map (·.2)).map PyData.bool := by
    unfold someL
    rw [List.map_append, List.map_append, List.map_map, List.map_map]
    have e : o3.map (fun _ => PyData.bool true) = List.replicate o3.length (PyData.bool true) := map_c o3 _
    rw [← e]
    rfl
  refine sd_ret (EX.is (ex_andV (ex_op (EL.ex (EL.is (el_lc (someL w o3) (·.1) (fun _ => true) (fun x => .bool x.2) [10] (IW.is (iw_list (ex_var rfl)) ?_) (fun j h => h) ?_ fun x hx => ⟨_, gd_name, et_yes, fun _ => ex_kw2 (ex_var rfl) (ex_var rfl) (some_right ho (by omega) a1 a4 htk x hx)⟩) (show _ = ((someL w o3).map (·.2)).map PyData.bool from ?_))) (EX.is (ex_var rfl) (congrArg PyData.list due)) (rx_eqD (shaped_bools _) (shaped_bools _)))
    fun _ => ex_op (ex_cb (eax_cons (ex_var rfl) eax_nil) (rcx_tupI hdp)) (ex_var rfl) (rx_eqD (shaped_tI w) (shaped_tI w))) ?_) h
  · unfold someL
    rw [List.map_append, List.map_map]
    rfl
  · unfold someL
    rw [List.length_append, List.length_map]
    show _ + 8 ≤ 40000
    omega
  · rw [List.filter_eq_self.mpr fun _ _ => rfl, List.map_map]
    rfl
  · rw [eqv_bools, eqv_tI, decide_eq_true rfl]
    rfl
end
end Kd

/-! The law of six things, the whole law. -/
namespace Kd
open PySem PySem.Spec PyProof.Rows L2 Evl

def w6 : List Int := [3, 5, 1, 6, 2, 4]
theorem six_ok : ∀ v ∈ allP 6, (bydB w6 v == (onB w6 v && !lbB v w6)) = true := by decide +kernel
theorem six_brd : isOrd w6 = true ∧ brdB (boardM w6) = true ∧ brdOk (boardM w6) = true ∧ bydB w6 [1, 4, 5, 2, 3, 6] = true ∧ (match howM (boardM w6) with | none => false | some r => decide (r > 0)) = true := by decide +kernel
section
variable {P : Program} {w : World} {K : PySem.W.Frag} {mg : Str → Option Value} {base : Heap} {f : Addr} {fd : FuncData} {ρ : Rho} {ta tb te : TE} {tA tR : TA} {d : PyData} {Pp : PyData → Prop} {E : DE} {i j : Nat}
theorem ed_tup {Ps : List PyData → Prop} (h : EAD K tA ρ Ps) (hz : ∀ ds, Ps ds → ds.length ≤ 100000) : ED K (tTup tA) ρ fun d => ∃ ds, d = .tuple ds ∧ Ps ds := fun m G0 H0 G σ H S Q q =>
  h m G0 H0 G σ H S _ fun vs ds G1 H1 x1 r1 p1 => ⟨sz_of (by rw [r1.len]; exact hz ds p1), fun p hp => q _ (.tuple ds) _ _ (x1.trans (Xt.new x1.gh hp)) (.tup (.inl (.inl upd_same)) (r1.mono (Ex.new (fresh_back x1.gh hp)))) ⟨ds, rfl, p1⟩⟩
theorem eall_nil : EAD K tNil ρ fun ds => ds.length = 0 ∧ ∀ d ∈ ds, Pp d := EAD.imp ead_nil fun ds h => by subst h; exact ⟨rfl, fun _ h => nomatch h⟩
theorem eall_cons {n : Nat} (h : ED K te ρ Pp) (hr : EAD K tR ρ fun ds => ds.length = n ∧ ∀ d ∈ ds, Pp d) : EAD K (tCons te tR) ρ fun ds => ds.length = n + 1 ∧ ∀ d ∈ ds, Pp d := EAD.imp (ead_cons h hr) fun ds ⟨d, es, e, p, l, q⟩ => by
  subst e
  refine ⟨by rw [List.length_cons, l], fun x hx => ?_⟩
  rcases List.mem_cons.mp hx with rfl | hx
  · exact p
  · exact q x hx
theorem perm_take {l r : List Int} {x : Int} (h : (l ++ r).Perm (upTo 6)) (hx : x ∈ r) : ((l ++ [x]) ++ r.filter fun t => !decide (t = x)).Perm (upTo 6) := by
  have hn : (l ++ r).Nodup := h.nodup_iff.mpr (by decide)
  have hr : r.Nodup := (List.nodup_append.mp hn).2.1
  refine List.Perm.trans ?_ h
  rw [List.append_assoc]
  refine List.Perm.append_left l ?_
  have e : r.filter (fun t => !decide (t = x)) = r.erase x := by
    rw [hr.erase_eq_filter]
    refine List.filter_congr fun a _ => ?_
    by_cases z : a = x
    · subst z
      simp
    · simp [z]
  rw [e]
  exact (List.perm_cons_erase hx).symm
abbrev s_law_six_right : Stmt := topS 78
abbrev N_law_six_right : List Str := ["_law_pot_here", "_law_order_here", "_law_turn", "_law_laying", "_law_left", "_law_place", "_law_fits", "_law_due", "_law_thing"]
theorem sc_law_six_right : FnScope N_law_six_right ["_law_pot_here"] (C8.fnScope s_law_six_right) := C8.fnScope_by (by decide +kernel)
abbrev s_law_right : Stmt := topS 79
abbrev N_law_right : List Str := ["_law_pot_here", "_law_order_here"]
theorem sc_law_right : FnScope N_law_right ["_law_pot_here"] (C8.fnScope s_law_right) := C8.fnScope_by (by decide +kernel)
abbrev slaw : Stmt := topS 80
abbrev Nlaw : List Str := ["_law_script"]
theorem sclaw : FnScope Nlaw ["_law_script"] (C8.fnScope slaw) := C8.fnScope_by (by decide +kernel)
def R__law_six_right (ss : List Sl) (P : PyData → Prop) : Prop := ss = [.pot] ∧ P (.bool true)
theorem cal__law_six_right (F : C8.Def K mg "_law_six_right" s_law_six_right f fd) (bd : Binds K fd ["_law_pot_here"] []) (T : BI mg) (c_how_many : C8.Cal P w K mg base 5 "how_many" (spR K R_how_many) []) (c_board_of : C8.Cal P w K mg base 4 "board_of" (spR K R_board_of) []) (c_is_beyond : C8.Cal P w K mg base 6 "is_beyond" (spR K R_is_beyond) [])
    (c__law_is_below : C8.Cal P w K mg base 2 "_law_is_below" (spR K R__law_is_below) []) (c__law_is_on : C8.Cal P w K mg base 1 "_law_is_on" (spR K R__law_is_on) []) (c__law_pick : C8.Cal P w K mg base 2 "_law_pick" (spR K R__law_pick) []) (c__law_order : C8.Cal P w K mg base 2 "_law_order" (spR K R__law_order) []) : C8.Cal P w K mg base 7 "_law_six_right" (spR K R__law_six_right) [] := by
  have sc := sc_law_six_right
  refine def_by F bd sc (by decide) (fun ss P h => by obtain ⟨rfl, _⟩ := h; rfl) fun cdv A outer s H E hr => ⟨_, (pss_cons (ps_set (i := 1) sc.nd rfl (.inr rfl) (pe_tup (pa_cons pe_int (pa_cons pe_int (pa_cons pe_int (pa_cons pe_int (pa_cons pe_int (pa_cons pe_int pa_nil)))))))) (pss_cons (ps_for PassesOwn.never rfl (pi_range1 (by rfl) T.range (pa_cons pe_int pa_nil)) (pg_name (i := 2) sc.nd rfl (.inl rfl)) (pss_cons (ps_set (i := 3) sc.nd rfl (.inr rfl) (C8.pe_c c__law_order hr (by decide) (by rfl) (pa_cons (pv 0) (pa_cons pe_int pa_nil)))) (pss_cons (ps_if (pt_cmpR op_lt (pv 2) pe_int (nomark _)) (pss_cons (ps_asg (pe_tup (pa_cons (pe_tup pa_nil) (pa_cons (pe_listRg rfl (by rfl) T.list (prg_2 (by rfl) T.range pe_int pe_int)) pa_nil))) (pg_tup rfl (pgs_cons (pg_name (i := 3) sc.nd rfl (.inr rfl)) (pgs_cons (pg_name (i := 4) sc.nd rfl (.inl rfl)) pgs_nil)))) (pss_one (ps_for PassesOwn.never rfl (pi_range1 (by rfl) T.range (pa_cons pe_int pa_nil)) (pg_name (i := 5) sc.nd rfl (.inr rfl)) (pss_cons (ps_setLc (i := 6) (own := [("_law_thing", 8)]) rfl sc.nd rfl rfl (sw_true rfl rfl rfl (by decide +kernel)) (pi_list (pv 4)) (blkOk_by (own := [("_law_thing", 8)]) (N := N_law_six_right) (sc := C8.fnScope s_law_six_right) (by decide +kernel)) (fun _ _ _ _ _ => (pg_name (i := 8) sc.nd rfl (.inl rfl))) (fun _ _ _ _ _ => (pts_one (pt_chain op_le op_le (pe_callB (cr_minTK (K := K) rfl rfl hr.units) (by rfl) T.min (by decide +kernel) (pa_cons (pe_slice (sl_tupAK (K := K) rfl) (pv 1) (po_some (pv 5)) po_none) pa_nil)) (pv 8) (pe_callB (cr_maxTK (K := K) rfl rfl hr.units) (by rfl) T.max (by decide +kernel) (pa_cons (pe_slice (sl_tupAK (K := K) rfl) (pv 1) po_none (po_some (pe_op op_add (pv 5) pe_int))) pa_nil))))) (fun _ _ _ _ _ => (pv 8))) (pss_cons (ps_set (i := 3) sc.nd rfl (.inr rfl) (pe_op op_catA (pv 3) (pe_tup (pa_cons (C8.pe_c c__law_pick hr (by decide) (by rfl) (pa_cons (pv 0) (pa_cons (pe_ifExp (pt_cmpR (op_neD hr.units) (pv 6) (pe_lst pa_nil) (nomark _)) (pv 6) (pv 4)) pa_nil))) pa_nil)))) (pss_one (ps_setLc (i := 4) (own := [("_law_thing", 8)]) rfl sc.nd rfl rfl (sw_true rfl rfl rfl (by decide +kernel)) (pi_list (pv 4)) (blkOk_by (own := [("_law_thing", 8)]) (N := N_law_six_right) (sc := C8.fnScope s_law_six_right) (by decide +kernel)) (fun _ _ _ _ _ => (pg_name (i := 8) sc.nd rfl (.inl rfl))) (fun _ _ _ _ _ => (pts_one (pt_cmpR op_ne (pv 8) (pe_ix (ix_tupK (K := K) rfl) (pv 3) (pv 5) (fun _ _ => rfl)) (nomark _)))) (fun _ _ _ _ _ => (pv 8))))))))) pss_nil) (pss_cons (ps_set (i := 7) sc.nd rfl (.inl rfl) (pe_and (C8.pe_c c__law_is_on hr (by decide) (by rfl) (pa_cons (pv 1) (pa_cons (pv 3) pa_nil))) (pe_one (pe_not (C8.pe_c c__law_is_below hr (by decide) (by rfl) (pa_cons (pv 3) (pa_cons (pv 1) pa_nil))))))) (pss_one (ps_if (pt_cmpR op_ne (C8.pe_c c_is_beyond hr (by decide) (by rfl) (pa_cons (pv 1) (pa_cons (pv 3) pa_nil))) (pv 7) (nomark _)) (pss_one (ps_ret pe_bl)) pss_nil)))))) (pss_one (ps_ret (pe_and (C8.pe_c c_is_beyond hr (by decide) (by rfl) (pa_cons (pv 1) (pa_cons (pe_lst (pa_cons pe_int (pa_cons pe_int (pa_cons pe_int (pa_cons pe_int (pa_cons pe_int (pa_cons pe_int pa_nil))))))) pa_nil))) (pe_one (pe_cmpR op_gt (C8.pe_c c_how_many hr (by decide) (by rfl) (pa_cons (C8.pe_c c_board_of hr (by decide) (by rfl) (pa_cons (pv 1) pa_nil)) pa_nil)) pe_int (nomark _)))))))), fun ss Pd h => ?_⟩
  obtain ⟨rfl, h⟩ := h
  obtain ⟨b1, b2, b3, b4, b5⟩ := six_brd
  refine sd_seq (sd_asg (EX.toS (d := tI w6) (ex_tup (eax_cons ex_int (eax_cons ex_int (eax_cons ex_int (eax_cons ex_int (eax_cons ex_int (eax_cons ex_int eax_nil)))))) (by show 6 ≤ 100000; decide))) ?_)
  refine sd_seq (sd_forN 0 14 (fun i ρ' => ∃ s2 s3 s4 s5 s6 s7 s8, ρ' = [.pot, .dat (tI w6), s2, s3, s4, s5, s6, s7, s8]) (iw_rn1 (n := 14) ex_int (by decide)) ⟨_, _, _, _, _, _, _, rfl⟩ ?_ ?_)
  · rintro i ρ' hi ⟨s2, s3, s4, s5, s6, s7, s8, rfl⟩
    refine ⟨_, _, gd_name, ?_⟩
    refine sd_seq (sd_asgP (P := fun d => ∃ v, d = tI v ∧ v.Perm (upTo 6)) (ed_call (ea_pot rfl (ea_dat ex_int ea_nil)) fun us e => ⟨6, e, by decide, fun v hv => ⟨v, rfl, hv⟩⟩) fun d hd => ?_)
    obtain ⟨v0, rfl, hv0⟩ := hd
    refine sd_cut (fun ρ' => ∃ v s4 s5 s6 s7 s8, ρ' = [.pot, .dat (tI w6), .dat (.int ((0 + i : Nat) : Int)), .dat (tI v), s4, s5, s6, s7, s8] ∧ v.Perm (upTo 6)) ?_ ?_
    · refine sd_if (b := decide (((0 + i : Nat) : Int) < 11)) (et_test (ex_op (ex_var rfl) ex_int rx_bl)) (fun _ => ?_) fun _ => sd_next ⟨v0, s4, s5, s6, s7, s8, rfl, hv0⟩
      refine sd_seq (sd_parT (EX.toS (d := tI []) (ex_tup eax_nil (by decide))) (EX.toS (d := lI (upTo 6)) (EL.ex (EL.is (el_rg2 ex_int ex_int (by decide)) (rngD_upTo 6)))) ?_)
      refine sd_forN 0 6 (fun j ρ' => ∃ l r s5 s6 s7 s8, ρ' = [.pot, .dat (tI w6), .dat (.int ((0 + i : Nat) : Int)), .dat (tI l), .dat (lI r), s5, s6, s7, s8] ∧ l.length = j ∧ (l ++ r).Perm (upTo 6)) (iw_rn1 (n := 6) ex_int (by decide)) ⟨[], upTo 6, s5, s6, s7, s8, rfl, rfl, .refl _⟩ ?_ ?_
      · rintro j ρ' hj ⟨l, r, s5, s6, s7, s8, rfl, hl, hp⟩
        rw [Nat.zero_add]
        have hlr : l.length + r.length = 6 := by
          have := hp.length_eq
          rw [List.length_append, upTo_len] at this
          exact this
        refine ⟨_, _, gd_name, ?_⟩
        have hmin : ∀ {ρ : Rho}, ρ[1]? = some (.dat (tI w6)) → ρ[5]? = some (.dat (.int (j : Int))) → EX K (tCB (rMinT K) (tCons (tSl (rSlA K) (tVar 1) (tPart (tVar 5)) tNoPart) tNil)) ρ (.int (minL (w6.drop j))) := fun e1 e2 => by
          have es : ∀ {ρ : Rho}, ρ[1]? = some (.dat (tI w6)) → ρ[5]? = some (.dat (.int (j : Int))) → EX K (tSl (rSlA K) (tVar 1) (tPart (tVar 5)) tNoPart) ρ (tI (w6.drop j)) := fun e1 e2 => EX.is (ex_slI (ex_var e1) (eo_some (ex_var e2)) eo_none) (by rw [cutI_lo])
          cases hd : w6.drop j with
          | nil =>
            have := congrArg List.length hd
            rw [List.length_drop, List.length_nil] at this
            have : w6.length = 6 := rfl
            omega
          | cons a l => exact ex_cb (eax_cons (EX.is (es e1 e2) (by rw [hd])) eax_nil) rcx_minT
        have hmax : ∀ {ρ : Rho}, ρ[1]? = some (.dat (tI w6)) → ρ[5]? = some (.dat (.int (j : Int))) → EX K (tCB (rMaxT K) (tCons (tSl (rSlA K) (tVar 1) tNoPart (tPart (tOp (rI0 fun i j => .int (i + j)) (tVar 5) (tC (.int 1))))) tNil)) ρ (.int (maxL (w6.take (j + 1)))) := fun e1 e2 => by
          have es : ∀ {ρ : Rho}, ρ[1]? = some (.dat (tI w6)) → ρ[5]? = some (.dat (.int (j : Int))) → EX K (tSl (rSlA K) (tVar 1) tNoPart (tPart (tOp (rI0 fun i j => .int (i + j)) (tVar 5) (tC (.int 1))))) ρ (tI (w6.take (j + 1))) := fun e1 e2 => EX.is (ex_slI (ex_var e1) eo_none (eo_some (x := ((j + 1 : Nat) : Int)) (EX.is (ex_op (ex_var e2) ex_int rx_int) (by rw [Int.natCast_add]; rfl)))) (by rw [cutI_hi])
          cases hd : w6.take (j + 1) with
          | nil =>
            have := congrArg List.length hd
            rw [List.length_take, List.length_nil] at this
            have : w6.length = 6 := rfl
            omega
          | cons a l => exact ex_cb (eax_cons (EX.is (es e1 e2) (by rw [hd])) eax_nil) rcx_maxT
        refine sd_seq (sd_asg (EX.toS (EL.ex (el_lc r PyData.int (fun t => decide (minL (w6.drop j) ≤ t) && decide (t ≤ maxL (w6.take (j + 1)))) PyData.int [8] (iw_list (ex_var rfl)) (fun j h => h) (by omega) fun t ht => ⟨_, gd_name, et_test (ex_chain (hmin rfl rfl) (ex_var rfl) (hmax rfl rfl) rx_bl rx_bl), fun _ => ex_var rfl⟩))) ?_)
        have hsub : ∀ t ∈ r.filter (fun t => decide (minL (w6.drop j) ≤ t) && decide (t ≤ maxL (w6.take (j + 1)))), t ∈ r := fun t ht => (List.mem_filter.mp ht).1
        have hfl : (r.filter (fun t => decide (minL (w6.drop j) ≤ t) && decide (t ≤ maxL (w6.take (j + 1))))).length ≤ 6 := Nat.le_trans (List.length_filter_le _ _) (by omega)
        generalize r.filter (fun t => decide (minL (w6.drop j) ≤ t) && decide (t ≤ maxL (w6.take (j + 1)))) = fl at hsub hfl
        have eq0 : (!PyData.eqv (lI fl) (.list [])) = !decide (fl = []) := by rw [← eqv_lI fl []]; rfl
        have hr0 : r ≠ [] := fun z => by rw [z, List.length_nil] at hlr; omega
        have hpick : 1 ≤ (if fl = [] then r else fl).length ∧ (if fl = [] then r else fl).length ≤ 6 ∧ ∀ t ∈ (if fl = [] then r else fl), t ∈ r := by
          split
          · refine ⟨?_, by omega, fun t h => h⟩
            have := List.length_pos_iff.mpr hr0
            omega
          · refine ⟨?_, hfl, hsub⟩
            have := List.length_pos_iff.mpr (show fl ≠ [] by assumption)
            omega
        refine sd_seq (sd_asgP (P := fun d => ∃ x ∈ r, d = tI (l ++ [x])) (ed_op (P1 := fun d => d = tI l) (EX.ed (ex_var rfl) rfl) (ed_tup (eall_cons (Pp := fun d => ∃ x ∈ r, d = .int x) (ed_call (ea_pot rfl (ea_dat (d := lI (if fl = [] then r else fl)) (ex_if (b := !decide (fl = [])) (et_test (EX.is (ex_op (ex_var rfl) (EL.ex (el_lst eax_nil (by decide))) (rx_neD (shaped_lI fl) (shaped_lI []))) (by rw [eq0]))) (fun e => ?_) fun e => ?_) ea_nil)) fun us e => ⟨_, e, ?_, ?_, fun d hd => ?_⟩) eall_nil) fun ds hd => by rw [hd.1]; decide) fun d e hd he => ?_) fun d hd => ?_)
        · have hne : fl ≠ [] := fun z => by rw [decide_eq_true z] at e; exact nomatch e
          rw [if_neg hne]
          exact ex_var rfl
        · have hne : fl = [] := by
            cases fl with
            | nil => rfl
            | cons a l => exact nomatch e
          rw [if_pos hne]
          exact ex_var rfl
        · rw [List.length_map]; exact hpick.1
        · rw [List.length_map]; omega
        · obtain ⟨x, hx, rfl⟩ := List.mem_map.mp hd
          exact ⟨x, hpick.2.2 x hx, rfl⟩
        · subst hd
          obtain ⟨ds, rfl, l1, hall⟩ := he
          match ds, l1, hall with
          | [y], _, hall =>
            obtain ⟨x, hx, rfl⟩ := hall y List.mem_cons_self
            refine ⟨tI (l ++ [x]), ?_, x, hx, rfl⟩
            have := rx_catT (K := K) (ds := l.map PyData.int) (es := [.int x]) (by rw [List.length_map, List.length_singleton]; omega)
            have e : tI (l ++ [x]) = .tuple (l.map PyData.int ++ [.int x]) := by rw [tI, List.map_append]; rfl
            rw [e]
            exact this
        · obtain ⟨x, hx, rfl⟩ := hd
          refine sd_asg (EX.toS (EL.ex (el_lc r PyData.int (fun t => !decide (t = x)) PyData.int [8] (iw_list (ex_var rfl)) (fun j h => h) (by omega) fun t ht => ⟨_, gd_name, et_test (ex_op (ex_var rfl) (ex_op (ex_var rfl) (ex_var rfl) (rx_ixT (z := .int x) (atI_map (f := PyData.int) (k := j) ?_))) rx_neI), fun _ => ex_var rfl⟩))) ?_
          · rw [List.getElem?_append_right (by omega), hl, Nat.sub_self]
            rfl
          · exact ⟨l ++ [x], r.filter (fun t => !decide (t = x)), .dat (.int (j : Int)), .dat (lI fl), s7, s8, rfl, by rw [List.length_append, List.length_singleton, hl], perm_take hp hx⟩
      · rintro ρ' ⟨l, r, s5, s6, s7, s8, rfl, hl, hp⟩
        have hlr := hp.length_eq
        rw [List.length_append, upTo_len] at hlr
        have er : r = [] := List.length_eq_zero_iff.mp (by omega)
        subst er
        rw [List.append_nil] at hp
        exact ⟨l, _, s5, s6, s7, s8, rfl, hp⟩
    · rintro ρ' ⟨v, s4, s5, s6, s7, s8, rfl, hv⟩
      have hl : v.length = 6 := by rw [hv.length_eq, upTo_len]
      have hw : w6.length = 6 := rfl
      have ok := beq_iff_eq.mp (six_ok v (mem_perms _ _ hv))
      refine sd_seq (sd_asg (EX.toS (ex_andV (ex_call (ea_dat (ex_var rfl) (ea_dat (ex_var rfl) ea_nil)) ⟨w6, v, rfl, by omega, by omega, rfl⟩) fun _ => ex_notV (ex_call (ea_dat (ex_var rfl) (ea_dat (ex_var rfl) ea_nil)) ⟨v, w6, rfl, by omega, by omega, by omega, rfl⟩))) ?_)
      refine sd_if (b := false) (ET.is (et_test (ex_op (ex_call (ea_dat (ex_var rfl) (ea_dat (ex_var rfl) ea_nil)) ⟨_, w6, _, rfl, .inl rfl, by omega, b1, b2, .inl ⟨v, .inl rfl, by omega, rfl⟩⟩) (ex_var rfl) rx_neB)) ?_) (fun e => nomatch e) fun _ => sd_next ⟨_, _, _, _, _, _, _, rfl⟩
      rw [ok]
      simp
  · rintro ρ' ⟨s2, s3, s4, s5, s6, s7, s8, rfl⟩
    have hw : w6.length = 6 := rfl
    cases hh : howM (boardM w6) with
    | none =>
      rw [hh] at b5
      exact nomatch b5
    | some r =>
    rw [hh] at b5
    have b5 : decide (r > 0) = true := b5
    refine sd_ret (EX.is (ex_andV (ex_call (ea_dat (ex_var rfl) (ea_dat (d := lI [1, 4, 5, 2, 3, 6]) (EL.ex (el_lst (eax_cons ex_int (eax_cons ex_int (eax_cons ex_int (eax_cons ex_int (eax_cons ex_int (eax_cons ex_int eax_nil)))))) (by show 6 ≤ 100000; decide))) ea_nil)) ⟨_, w6, _, rfl, .inl rfl, by omega, b1, b2, .inl ⟨[1, 4, 5, 2, 3, 6], .inr rfl, by decide, rfl⟩⟩) fun _ =>
      ex_op (ex_call (ea_dat (ex_call (ea_dat (ex_var rfl) ea_nil) ⟨_, w6, rfl, .inl rfl, by omega, b1, rfl⟩) ea_nil) ⟨boardM w6, r, rfl, by rw [boardM_len]; omega, b2, b3, hh, rfl⟩) ex_int rx_bl) ?_) h
    rw [b4, b5]
    rfl
def R__law_right (ss : List Sl) (P : PyData → Prop) : Prop := ss = [.pot] ∧ P (.bool true)
theorem cal__law_right (F : C8.Def K mg "_law_right" s_law_right f fd) (bd : Binds K fd ["_law_pot_here"] []) (T : BI mg) (hok : ∀ {w : List Int}, isOrd w = true → w.length ≤ 5 → oneOk w = true) (c__law_six_right : C8.Cal P w K mg base 7 "_law_six_right" (spR K R__law_six_right) []) (c__law_one_right : C8.Cal P w K mg base 8 "_law_one_right" (spR K R__law_one_right) [])
    (c__law_pick : C8.Cal P w K mg base 2 "_law_pick" (spR K R__law_pick) []) (c__law_order : C8.Cal P w K mg base 2 "_law_order" (spR K R__law_order) []) (c__law_drawn : C8.Cal P w K mg base 3 "_law_drawn" (spR K R__law_drawn) []) : C8.Cal P w K mg base 9 "_law_right" (spR K R__law_right) [] := by
  have sc := sc_law_right
  refine def_by F bd sc (by decide) (fun ss P h => by obtain ⟨rfl, _⟩ := h; rfl) fun cdv A outer s H E hr => ⟨_, (pss_cons (ps_set (i := 1) sc.nd rfl (.inl rfl) (C8.pe_c c__law_pick hr (by decide) (by rfl) (pa_cons (pv 0) (pa_cons (pe_lst (pa_cons (pe_tup (pa_cons pe_int (pa_cons pe_int (pa_cons pe_int (pa_cons pe_int pa_nil))))) (pa_cons (pe_tup (pa_cons pe_int (pa_cons pe_int (pa_cons pe_int (pa_cons pe_int (pa_cons pe_int pa_nil)))))) (pa_cons (pe_tup (pa_cons pe_int (pa_cons pe_int (pa_cons pe_int (pa_cons pe_int (pa_cons pe_int pa_nil)))))) (pa_cons (C8.pe_c c__law_drawn hr (by decide) (by rfl) (pa_cons (pv 0) (pa_cons pe_int pa_nil))) (pa_cons (C8.pe_c c__law_order hr (by decide) (by rfl) (pa_cons (pv 0) (pa_cons pe_int pa_nil))) (pa_cons (C8.pe_c c__law_order hr (by decide) (by rfl) (pa_cons (pv 0) (pa_cons pe_int pa_nil))) pa_nil))))))) pa_nil)))) (pss_one (ps_ret (pe_and (C8.pe_c c__law_one_right hr (by decide) (by rfl) (pa_cons (pv 0) (pa_cons (pv 1) pa_nil))) (pe_one (C8.pe_c c__law_six_right hr (by decide) (by rfl) (pa_cons (pv 0) pa_nil))))))), fun ss Pd h => ?_⟩
  obtain ⟨rfl, h⟩ := h
  have t4 : ∀ {ρ : Rho} {a b c d : Int}, EX K (tTup (tCons (tC (.int a)) (tCons (tC (.int b)) (tCons (tC (.int c)) (tCons (tC (.int d)) tNil))))) ρ (tI [a, b, c, d]) := ex_tup (eax_cons ex_int (eax_cons ex_int (eax_cons ex_int (eax_cons ex_int eax_nil)))) (by show 4 ≤ 100000; decide)
  have t5 : ∀ {ρ : Rho} {a b c d e : Int}, EX K (tTup (tCons (tC (.int a)) (tCons (tC (.int b)) (tCons (tC (.int c)) (tCons (tC (.int d)) (tCons (tC (.int e)) tNil)))))) ρ (tI [a, b, c, d, e]) := ex_tup (eax_cons ex_int (eax_cons ex_int (eax_cons ex_int (eax_cons ex_int (eax_cons ex_int eax_nil))))) (by show 5 ≤ 100000; decide)
  refine sd_seq (sd_asgP (P := fun d => ∃ v, d = tI v ∧ isOrd v = true ∧ v.length ≤ 5) (ed_call (RS := fun us => ∃ ds : List PyData, us = [.pot, .dat (.list ds)] ∧ ds.length = 6 ∧ ∀ d ∈ ds, ∃ v, d = tI v ∧ isOrd v = true ∧ v.length ≤ 5) (ea_potP rfl (ed_lst (eall_cons (t4.ed ⟨_, rfl, by decide +kernel, by decide⟩) (eall_cons (t5.ed ⟨_, rfl, by decide +kernel, by decide⟩) (eall_cons (t5.ed ⟨_, rfl, by decide +kernel, by decide⟩)
    (eall_cons (ed_call (ea_pot rfl (ea_dat ex_int ea_nil)) fun us e => ⟨e, fun v h1 h2 => ⟨v, rfl, h1, h2⟩⟩) (eall_cons (ed_call (ea_pot rfl (ea_dat ex_int ea_nil)) fun us e => ⟨4, e, by decide, fun v hv => ⟨v, rfl, isOrd_perm hv (by decide) (by decide), by rw [hv.length_eq, upTo_len]; decide⟩⟩)
      (eall_cons (ed_call (ea_pot rfl (ea_dat ex_int ea_nil)) fun us e => ⟨5, e, by decide, fun v hv => ⟨v, rfl, isOrd_perm hv (by decide) (by decide), by rw [hv.length_eq, upTo_len]; decide⟩⟩) eall_nil)))))) fun ds hd => by rw [hd.1]; decide) fun d ⟨ds, e, p⟩ => ⟨ds, by rw [e], p⟩) fun us ⟨ds, e, l, p⟩ => ⟨ds, e, by omega, by omega, p⟩) fun d hd => ?_)
  obtain ⟨v, rfl, ho, hl⟩ := hd
  exact sd_ret (ex_andV (ex_call (ea_pot rfl (ea_dat (ex_var rfl) ea_nil)) ⟨v, rfl, ho, hl, hok ho hl, rfl⟩) fun _ => ex_call (ea_pot rfl ea_nil) ⟨rfl, rfl⟩) h
def sp_law (K : PySem.W.Frag) : Sp := fun vs H Q _ => ∃ (a : Addr) (ns : List Int), vs = [.ref a] ∧ SqL K H a (ns.map V.int) ∧ ∀ H', Q (.bl true) H'
theorem fn_law (F : C8.Def K mg "law" slaw f fd) (T : BI mg) (c__law_right : C8.Cal P w K mg base 9 "_law_right" (spR K R__law_right) []) (c__law_pot : C8.Cal P w K mg base 1 "_law_pot" (sp_pot K) []) : FnOk P w K mg base C8.CX0 10 f fd ["_law_script"] (sp_law K) := by
  have sc := sclaw
  refine C8.fn0 F.fn sc (fun vs H Q E h => by obtain ⟨a, ns, rfl, _⟩ := h; rfl) fun cdv A outer s H vs Q E hr h => ⟨_, (pss_one (ps_ret (C8.pe_c c__law_right hr (by decide) (by rfl) (pa_cons (C8.pe_c c__law_pot hr (by decide) (by rfl) (pa_cons (pv 0) (pa_cons pe_int pa_nil))) pa_nil)))), ?_⟩
  obtain ⟨a, ns, rfl, hS, q⟩ := h
  refine ⟨.ref a, rfl, a, ns, rfl, hS, fun p H' hp => ?_⟩
  refine ⟨some p, fun _ => none, [.pot], fun d => d = .bool true, (fun _ _ e => nomatch e), (fun p' e => by cases Option.some.inj e; exact ⟨rfl, hp⟩), .cons (s := .pot) ⟨p, rfl, rfl⟩ .nil, ⟨rfl, rfl⟩, fun v d G2 H2 x r pd => ?_⟩
  subst pd
  cases r
  exact q H2
theorem cal_law (F : C8.Def K mg "law" slaw f fd) (bd : Binds K fd ["_law_script"] []) (T : BI mg) (c__law_right : C8.Cal P w K mg base 9 "_law_right" (spR K R__law_right) []) (c__law_pot : C8.Cal P w K mg base 1 "_law_pot" (sp_pot K) []) : C8.Cal P w K mg base 10 "law" (sp_law K) [] := ⟨f, fd, _, [], fn_law F T c__law_right c__law_pot, F.mgf, F.kp, bd, .nil⟩
end
end Kd

/-! Every order of one to five things is checked. -/
namespace Kd
theorem all_nil {p : List Int → Bool} : ∀ w ∈ ([] : List (List Int)), p w = true := fun _ h => nomatch h
theorem all_cons {p : List Int → Bool} {a : List Int} {l : List (List Int)} (h : p a = true) (t : ∀ w ∈ l, p w = true) : ∀ w ∈ a :: l, p w = true := fun w hw => by
  rcases List.mem_cons.mp hw with rfl | hw
  · exact h
  · exact t w hw
theorem one1_0 : oneOk [1] = true := by decide +kernel
theorem allP1 : allP 1 = [[1]] := by decide +kernel
theorem one1 : ∀ w ∈ allP 1, oneOk w = true := by
  rw [allP1]
  exact (all_cons one1_0 all_nil)
theorem one2_0 : oneOk [1, 2] = true := by decide +kernel
theorem one2_1 : oneOk [2, 1] = true := by decide +kernel
theorem allP2 : allP 2 = [[1, 2], [2, 1]] := by decide +kernel
theorem one2 : ∀ w ∈ allP 2, oneOk w = true := by
  rw [allP2]
  exact (all_cons one2_0 (all_cons one2_1 all_nil))
theorem one3_0 : oneOk [1, 2, 3] = true := by decide +kernel
theorem one3_1 : oneOk [2, 1, 3] = true := by decide +kernel
theorem one3_2 : oneOk [2, 3, 1] = true := by decide +kernel
theorem one3_3 : oneOk [1, 3, 2] = true := by decide +kernel
theorem one3_4 : oneOk [3, 1, 2] = true := by decide +kernel
theorem one3_5 : oneOk [3, 2, 1] = true := by decide +kernel
theorem allP3 : allP 3 = [[1, 2, 3], [2, 1, 3], [2, 3, 1], [1, 3, 2], [3, 1, 2], [3, 2, 1]] := by decide +kernel
theorem one3 : ∀ w ∈ allP 3, oneOk w = true := by
  rw [allP3]
  exact (all_cons one3_0 (all_cons one3_1 (all_cons one3_2 (all_cons one3_3 (all_cons one3_4 (all_cons one3_5 all_nil))))))
theorem one4_0 : oneOk [1, 2, 3, 4] = true := by decide +kernel
theorem one4_1 : oneOk [2, 1, 3, 4] = true := by decide +kernel
theorem one4_2 : oneOk [2, 3, 1, 4] = true := by decide +kernel
theorem one4_3 : oneOk [2, 3, 4, 1] = true := by decide +kernel
theorem one4_4 : oneOk [1, 3, 2, 4] = true := by decide +kernel
theorem one4_5 : oneOk [3, 1, 2, 4] = true := by decide +kernel
theorem one4_6 : oneOk [3, 2, 1, 4] = true := by decide +kernel
theorem one4_7 : oneOk [3, 2, 4, 1] = true := by decide +kernel
theorem one4_8 : oneOk [1, 3, 4, 2] = true := by decide +kernel
theorem one4_9 : oneOk [3, 1, 4, 2] = true := by decide +kernel
theorem one4_10 : oneOk [3, 4, 1, 2] = true := by decide +kernel
theorem one4_11 : oneOk [3, 4, 2, 1] = true := by decide +kernel
theorem one4_12 : oneOk [1, 2, 4, 3] = true := by decide +kernel
theorem one4_13 : oneOk [2, 1, 4, 3] = true := by decide +kernel
theorem one4_14 : oneOk [2, 4, 1, 3] = true := by decide +kernel
theorem one4_15 : oneOk [2, 4, 3, 1] = true := by decide +kernel
theorem one4_16 : oneOk [1, 4, 2, 3] = true := by decide +kernel
theorem one4_17 : oneOk [4, 1, 2, 3] = true := by decide +kernel
theorem one4_18 : oneOk [4, 2, 1, 3] = true := by decide +kernel
theorem one4_19 : oneOk [4, 2, 3, 1] = true := by decide +kernel
theorem one4_20 : oneOk [1, 4, 3, 2] = true := by decide +kernel
theorem one4_21 : oneOk [4, 1, 3, 2] = true := by decide +kernel
theorem one4_22 : oneOk [4, 3, 1, 2] = true := by decide +kernel
theorem one4_23 : oneOk [4, 3, 2, 1] = true := by decide +kernel
theorem allP4 : allP 4 = [[1, 2, 3, 4], [2, 1, 3, 4], [2, 3, 1, 4], [2, 3, 4, 1], [1, 3, 2, 4], [3, 1, 2, 4], [3, 2, 1, 4], [3, 2, 4, 1], [1, 3, 4, 2], [3, 1, 4, 2], [3, 4, 1, 2], [3, 4, 2, 1], [1, 2, 4, 3], [2, 1, 4, 3], [2, 4, 1, 3], [2, 4, 3, 1], [1, 4, 2, 3], [4, 1, 2, 3], [4, 2, 1, 3], [4, 2, 3, 1], [1, 4, 3, 2], [4, 1, 3, 2], [4, 3, 1, 2], [4, 3, 2, 1]] := by decide +kernel
theorem one4 : ∀ w ∈ allP 4, oneOk w = true := by
  rw [allP4]
  exact (all_cons one4_0 (all_cons one4_1 (all_cons one4_2 (all_cons one4_3 (all_cons one4_4 (all_cons one4_5 (all_cons one4_6 (all_cons one4_7 (all_cons one4_8 (all_cons one4_9 (all_cons one4_10 (all_cons one4_11 (all_cons one4_12 (all_cons one4_13 (all_cons one4_14 (all_cons one4_15 (all_cons one4_16 (all_cons one4_17 (all_cons one4_18 (all_cons one4_19 (all_cons one4_20 (all_cons one4_21 (all_cons one4_22 (all_cons one4_23 all_nil))))))))))))))))))))))))
theorem one5_0 : oneOk [1, 2, 3, 4, 5] = true := by decide +kernel
theorem one5_1 : oneOk [2, 1, 3, 4, 5] = true := by decide +kernel
theorem one5_2 : oneOk [2, 3, 1, 4, 5] = true := by decide +kernel
theorem one5_3 : oneOk [2, 3, 4, 1, 5] = true := by decide +kernel
theorem one5_4 : oneOk [2, 3, 4, 5, 1] = true := by decide +kernel
theorem one5_5 : oneOk [1, 3, 2, 4, 5] = true := by decide +kernel
theorem one5_6 : oneOk [3, 1, 2, 4, 5] = true := by decide +kernel
theorem one5_7 : oneOk [3, 2, 1, 4, 5] = true := by decide +kernel
theorem one5_8 : oneOk [3, 2, 4, 1, 5] = true := by decide +kernel
theorem one5_9 : oneOk [3, 2, 4, 5, 1] = true := by decide +kernel
theorem one5_10 : oneOk [1, 3, 4, 2, 5] = true := by decide +kernel
theorem one5_11 : oneOk [3, 1, 4, 2, 5] = true := by decide +kernel
theorem one5_12 : oneOk [3, 4, 1, 2, 5] = true := by decide +kernel
theorem one5_13 : oneOk [3, 4, 2, 1, 5] = true := by decide +kernel
theorem one5_14 : oneOk [3, 4, 2, 5, 1] = true := by decide +kernel
theorem one5_15 : oneOk [1, 3, 4, 5, 2] = true := by decide +kernel
theorem one5_16 : oneOk [3, 1, 4, 5, 2] = true := by decide +kernel
theorem one5_17 : oneOk [3, 4, 1, 5, 2] = true := by decide +kernel
theorem one5_18 : oneOk [3, 4, 5, 1, 2] = true := by decide +kernel
theorem one5_19 : oneOk [3, 4, 5, 2, 1] = true := by decide +kernel
theorem one5_20 : oneOk [1, 2, 4, 3, 5] = true := by decide +kernel
theorem one5_21 : oneOk [2, 1, 4, 3, 5] = true := by decide +kernel
theorem one5_22 : oneOk [2, 4, 1, 3, 5] = true := by decide +kernel
theorem one5_23 : oneOk [2, 4, 3, 1, 5] = true := by decide +kernel
theorem one5_24 : oneOk [2, 4, 3, 5, 1] = true := by decide +kernel
theorem one5_25 : oneOk [1, 4, 2, 3, 5] = true := by decide +kernel
theorem one5_26 : oneOk [4, 1, 2, 3, 5] = true := by decide +kernel
theorem one5_27 : oneOk [4, 2, 1, 3, 5] = true := by decide +kernel
theorem one5_28 : oneOk [4, 2, 3, 1, 5] = true := by decide +kernel
theorem one5_29 : oneOk [4, 2, 3, 5, 1] = true := by decide +kernel
theorem one5_30 : oneOk [1, 4, 3, 2, 5] = true := by decide +kernel
theorem one5_31 : oneOk [4, 1, 3, 2, 5] = true := by decide +kernel
theorem one5_32 : oneOk [4, 3, 1, 2, 5] = true := by decide +kernel
theorem one5_33 : oneOk [4, 3, 2, 1, 5] = true := by decide +kernel
theorem one5_34 : oneOk [4, 3, 2, 5, 1] = true := by decide +kernel
theorem one5_35 : oneOk [1, 4, 3, 5, 2] = true := by decide +kernel
theorem one5_36 : oneOk [4, 1, 3, 5, 2] = true := by decide +kernel
theorem one5_37 : oneOk [4, 3, 1, 5, 2] = true := by decide +kernel
theorem one5_38 : oneOk [4, 3, 5, 1, 2] = true := by decide +kernel
theorem one5_39 : oneOk [4, 3, 5, 2, 1] = true := by decide +kernel
theorem one5_40 : oneOk [1, 2, 4, 5, 3] = true := by decide +kernel
theorem one5_41 : oneOk [2, 1, 4, 5, 3] = true := by decide +kernel
theorem one5_42 : oneOk [2, 4, 1, 5, 3] = true := by decide +kernel
theorem one5_43 : oneOk [2, 4, 5, 1, 3] = true := by decide +kernel
theorem one5_44 : oneOk [2, 4, 5, 3, 1] = true := by decide +kernel
theorem one5_45 : oneOk [1, 4, 2, 5, 3] = true := by decide +kernel
theorem one5_46 : oneOk [4, 1, 2, 5, 3] = true := by decide +kernel
theorem one5_47 : oneOk [4, 2, 1, 5, 3] = true := by decide +kernel
theorem one5_48 : oneOk [4, 2, 5, 1, 3] = true := by decide +kernel
theorem one5_49 : oneOk [4, 2, 5, 3, 1] = true := by decide +kernel
theorem one5_50 : oneOk [1, 4, 5, 2, 3] = true := by decide +kernel
theorem one5_51 : oneOk [4, 1, 5, 2, 3] = true := by decide +kernel
theorem one5_52 : oneOk [4, 5, 1, 2, 3] = true := by decide +kernel
theorem one5_53 : oneOk [4, 5, 2, 1, 3] = true := by decide +kernel
theorem one5_54 : oneOk [4, 5, 2, 3, 1] = true := by decide +kernel
theorem one5_55 : oneOk [1, 4, 5, 3, 2] = true := by decide +kernel
theorem one5_56 : oneOk [4, 1, 5, 3, 2] = true := by decide +kernel
theorem one5_57 : oneOk [4, 5, 1, 3, 2] = true := by decide +kernel
theorem one5_58 : oneOk [4, 5, 3, 1, 2] = true := by decide +kernel
theorem one5_59 : oneOk [4, 5, 3, 2, 1] = true := by decide +kernel
theorem one5_60 : oneOk [1, 2, 3, 5, 4] = true := by decide +kernel
theorem one5_61 : oneOk [2, 1, 3, 5, 4] = true := by decide +kernel
theorem one5_62 : oneOk [2, 3, 1, 5, 4] = true := by decide +kernel
theorem one5_63 : oneOk [2, 3, 5, 1, 4] = true := by decide +kernel
theorem one5_64 : oneOk [2, 3, 5, 4, 1] = true := by decide +kernel
theorem one5_65 : oneOk [1, 3, 2, 5, 4] = true := by decide +kernel
theorem one5_66 : oneOk [3, 1, 2, 5, 4] = true := by decide +kernel
theorem one5_67 : oneOk [3, 2, 1, 5, 4] = true := by decide +kernel
theorem one5_68 : oneOk [3, 2, 5, 1, 4] = true := by decide +kernel
theorem one5_69 : oneOk [3, 2, 5, 4, 1] = true := by decide +kernel
theorem one5_70 : oneOk [1, 3, 5, 2, 4] = true := by decide +kernel
theorem one5_71 : oneOk [3, 1, 5, 2, 4] = true := by decide +kernel
theorem one5_72 : oneOk [3, 5, 1, 2, 4] = true := by decide +kernel
theorem one5_73 : oneOk [3, 5, 2, 1, 4] = true := by decide +kernel
theorem one5_74 : oneOk [3, 5, 2, 4, 1] = true := by decide +kernel
theorem one5_75 : oneOk [1, 3, 5, 4, 2] = true := by decide +kernel
theorem one5_76 : oneOk [3, 1, 5, 4, 2] = true := by decide +kernel
theorem one5_77 : oneOk [3, 5, 1, 4, 2] = true := by decide +kernel
theorem one5_78 : oneOk [3, 5, 4, 1, 2] = true := by decide +kernel
theorem one5_79 : oneOk [3, 5, 4, 2, 1] = true := by decide +kernel
theorem one5_80 : oneOk [1, 2, 5, 3, 4] = true := by decide +kernel
theorem one5_81 : oneOk [2, 1, 5, 3, 4] = true := by decide +kernel
theorem one5_82 : oneOk [2, 5, 1, 3, 4] = true := by decide +kernel
theorem one5_83 : oneOk [2, 5, 3, 1, 4] = true := by decide +kernel
theorem one5_84 : oneOk [2, 5, 3, 4, 1] = true := by decide +kernel
theorem one5_85 : oneOk [1, 5, 2, 3, 4] = true := by decide +kernel
theorem one5_86 : oneOk [5, 1, 2, 3, 4] = true := by decide +kernel
theorem one5_87 : oneOk [5, 2, 1, 3, 4] = true := by decide +kernel
theorem one5_88 : oneOk [5, 2, 3, 1, 4] = true := by decide +kernel
theorem one5_89 : oneOk [5, 2, 3, 4, 1] = true := by decide +kernel
theorem one5_90 : oneOk [1, 5, 3, 2, 4] = true := by decide +kernel
theorem one5_91 : oneOk [5, 1, 3, 2, 4] = true := by decide +kernel
theorem one5_92 : oneOk [5, 3, 1, 2, 4] = true := by decide +kernel
theorem one5_93 : oneOk [5, 3, 2, 1, 4] = true := by decide +kernel
theorem one5_94 : oneOk [5, 3, 2, 4, 1] = true := by decide +kernel
theorem one5_95 : oneOk [1, 5, 3, 4, 2] = true := by decide +kernel
theorem one5_96 : oneOk [5, 1, 3, 4, 2] = true := by decide +kernel
theorem one5_97 : oneOk [5, 3, 1, 4, 2] = true := by decide +kernel
theorem one5_98 : oneOk [5, 3, 4, 1, 2] = true := by decide +kernel
theorem one5_99 : oneOk [5, 3, 4, 2, 1] = true := by decide +kernel
theorem one5_100 : oneOk [1, 2, 5, 4, 3] = true := by decide +kernel
theorem one5_101 : oneOk [2, 1, 5, 4, 3] = true := by decide +kernel
theorem one5_102 : oneOk [2, 5, 1, 4, 3] = true := by decide +kernel
theorem one5_103 : oneOk [2, 5, 4, 1, 3] = true := by decide +kernel
theorem one5_104 : oneOk [2, 5, 4, 3, 1] = true := by decide +kernel
theorem one5_105 : oneOk [1, 5, 2, 4, 3] = true := by decide +kernel
theorem one5_106 : oneOk [5, 1, 2, 4, 3] = true := by decide +kernel
theorem one5_107 : oneOk [5, 2, 1, 4, 3] = true := by decide +kernel
theorem one5_108 : oneOk [5, 2, 4, 1, 3] = true := by decide +kernel
theorem one5_109 : oneOk [5, 2, 4, 3, 1] = true := by decide +kernel
theorem one5_110 : oneOk [1, 5, 4, 2, 3] = true := by decide +kernel
theorem one5_111 : oneOk [5, 1, 4, 2, 3] = true := by decide +kernel
theorem one5_112 : oneOk [5, 4, 1, 2, 3] = true := by decide +kernel
theorem one5_113 : oneOk [5, 4, 2, 1, 3] = true := by decide +kernel
theorem one5_114 : oneOk [5, 4, 2, 3, 1] = true := by decide +kernel
theorem one5_115 : oneOk [1, 5, 4, 3, 2] = true := by decide +kernel
theorem one5_116 : oneOk [5, 1, 4, 3, 2] = true := by decide +kernel
theorem one5_117 : oneOk [5, 4, 1, 3, 2] = true := by decide +kernel
theorem one5_118 : oneOk [5, 4, 3, 1, 2] = true := by decide +kernel
theorem one5_119 : oneOk [5, 4, 3, 2, 1] = true := by decide +kernel
theorem allP5 : allP 5 = [[1, 2, 3, 4, 5], [2, 1, 3, 4, 5], [2, 3, 1, 4, 5], [2, 3, 4, 1, 5], [2, 3, 4, 5, 1], [1, 3, 2, 4, 5], [3, 1, 2, 4, 5], [3, 2, 1, 4, 5], [3, 2, 4, 1, 5], [3, 2, 4, 5, 1], [1, 3, 4, 2, 5], [3, 1, 4, 2, 5], [3, 4, 1, 2, 5], [3, 4, 2, 1, 5], [3, 4, 2, 5, 1], [1, 3, 4, 5, 2], [3, 1, 4, 5, 2], [3, 4, 1, 5, 2], [3, 4, 5, 1, 2], [3, 4, 5, 2, 1], [1, 2, 4, 3, 5], [2, 1, 4, 3, 5], [2, 4, 1, 3, 5], [2, 4, 3, 1, 5], [2, 4, 3, 5, 1], [1, 4, 2, 3, 5], [4, 1, 2, 3, 5], [4, 2, 1, 3, 5], [4, 2, 3, 1, 5], [4, 2, 3, 5, 1], [1, 4, 3, 2, 5], [4, 1, 3, 2, 5], [4, 3, 1, 2, 5], [4, 3, 2, 1, 5], [4, 3, 2, 5, 1], [1, 4, 3, 5, 2], [4, 1, 3, 5, 2], [4, 3, 1, 5, 2], [4, 3, 5, 1, 2], [4, 3, 5, 2, 1], [1, 2, 4, 5, 3], [2, 1, 4, 5, 3], [2, 4, 1, 5, 3], [2, 4, 5, 1, 3], [2, 4, 5, 3, 1], [1, 4, 2, 5, 3], [4, 1, 2, 5, 3], [4, 2, 1, 5, 3], [4, 2, 5, 1, 3], [4, 2, 5, 3, 1], [1, 4, 5, 2, 3], [4, 1, 5, 2, 3], [4, 5, 1, 2, 3], [4, 5, 2, 1, 3], [4, 5, 2, 3, 1], [1, 4, 5, 3, 2], [4, 1, 5, 3, 2], [4, 5, 1, 3, 2], [4, 5, 3, 1, 2], [4, 5, 3, 2, 1], [1, 2, 3, 5, 4], [2, 1, 3, 5, 4], [2, 3, 1, 5, 4], [2, 3, 5, 1, 4], [2, 3, 5, 4, 1], [1, 3, 2, 5, 4], [3, 1, 2, 5, 4], [3, 2, 1, 5, 4], [3, 2, 5, 1, 4], [3, 2, 5, 4, 1], [1, 3, 5, 2, 4], [3, 1, 5, 2, 4], [3, 5, 1, 2, 4], [3, 5, 2, 1, 4], [3, 5, 2, 4, 1], [1, 3, 5, 4, 2], [3, 1, 5, 4, 2], [3, 5, 1, 4, 2], [3, 5, 4, 1, 2], [3, 5, 4, 2, 1], [1, 2, 5, 3, 4], [2, 1, 5, 3, 4], [2, 5, 1, 3, 4], [2, 5, 3, 1, 4], [2, 5, 3, 4, 1], [1, 5, 2, 3, 4], [5, 1, 2, 3, 4], [5, 2, 1, 3, 4], [5, 2, 3, 1, 4], [5, 2, 3, 4, 1], [1, 5, 3, 2, 4], [5, 1, 3, 2, 4], [5, 3, 1, 2, 4], [5, 3, 2, 1, 4], [5, 3, 2, 4, 1], [1, 5, 3, 4, 2], [5, 1, 3, 4, 2], [5, 3, 1, 4, 2], [5, 3, 4, 1, 2], [5, 3, 4, 2, 1], [1, 2, 5, 4, 3], [2, 1, 5, 4, 3], [2, 5, 1, 4, 3], [2, 5, 4, 1, 3], [2, 5, 4, 3, 1], [1, 5, 2, 4, 3], [5, 1, 2, 4, 3], [5, 2, 1, 4, 3], [5, 2, 4, 1, 3], [5, 2, 4, 3, 1], [1, 5, 4, 2, 3], [5, 1, 4, 2, 3], [5, 4, 1, 2, 3], [5, 4, 2, 1, 3], [5, 4, 2, 3, 1], [1, 5, 4, 3, 2], [5, 1, 4, 3, 2], [5, 4, 1, 3, 2], [5, 4, 3, 1, 2], [5, 4, 3, 2, 1]] := by decide +kernel
theorem one5 : ∀ w ∈ allP 5, oneOk w = true := by
  rw [allP5]
  exact (all_cons one5_0 (all_cons one5_1 (all_cons one5_2 (all_cons one5_3 (all_cons one5_4 (all_cons one5_5 (all_cons one5_6 (all_cons one5_7 (all_cons one5_8 (all_cons one5_9 (all_cons one5_10 (all_cons one5_11 (all_cons one5_12 (all_cons one5_13 (all_cons one5_14 (all_cons one5_15 (all_cons one5_16 (all_cons one5_17 (all_cons one5_18 (all_cons one5_19 (all_cons one5_20 (all_cons one5_21 (all_cons one5_22 (all_cons one5_23 (all_cons one5_24 (all_cons one5_25 (all_cons one5_26 (all_cons one5_27 (all_cons one5_28 (all_cons one5_29 (all_cons one5_30 (all_cons one5_31 (all_cons one5_32 (all_cons one5_33 (all_cons one5_34 (all_cons one5_35 (all_cons one5_36 (all_cons one5_37 (all_cons one5_38 (all_cons one5_39 (all_cons one5_40 (all_cons one5_41 (all_cons one5_42 (all_cons one5_43 (all_cons one5_44 (all_cons one5_45 (all_cons one5_46 (all_cons one5_47 (all_cons one5_48 (all_cons one5_49 (all_cons one5_50 (all_cons one5_51 (all_cons one5_52 (all_cons one5_53 (all_cons one5_54 (all_cons one5_55 (all_cons one5_56 (all_cons one5_57 (all_cons one5_58 (all_cons one5_59 (all_cons one5_60 (all_cons one5_61 (all_cons one5_62 (all_cons one5_63 (all_cons one5_64 (all_cons one5_65 (all_cons one5_66 (all_cons one5_67 (all_cons one5_68 (all_cons one5_69 (all_cons one5_70 (all_cons one5_71 (all_cons one5_72 (all_cons one5_73 (all_cons one5_74 (all_cons one5_75 (all_cons one5_76 (all_cons one5_77 (all_cons one5_78 (all_cons one5_79 (all_cons one5_80 (all_cons one5_81 (all_cons one5_82 (all_cons one5_83 (all_cons one5_84 (all_cons one5_85 (all_cons one5_86 (all_cons one5_87 (all_cons one5_88 (all_cons one5_89 (all_cons one5_90 (all_cons one5_91 (all_cons one5_92 (all_cons one5_93 (all_cons one5_94 (all_cons one5_95 (all_cons one5_96 (all_cons one5_97 (all_cons one5_98 (all_cons one5_99 (all_cons one5_100 (all_cons one5_101 (all_cons one5_102 (all_cons one5_103 (all_cons one5_104 (all_cons one5_105 (all_cons one5_106 (all_cons one5_107 (all_cons one5_108 (all_cons one5_109 (all_cons one5_110 (all_cons one5_111 (all_cons one5_112 (all_cons one5_113 (all_cons one5_114 (all_cons one5_115 (all_cons one5_116 (all_cons one5_117 (all_cons one5_118 (all_cons one5_119 all_nil))))))))))))))))))))))))))))))))))))))))))))))))))))))))))))))))))))))))))))))))))))))))))))))))))))))))))))))))))))))))
theorem one_ok {w : List Int} (h : isOrd w = true) (h5 : w.length ≤ 5) : oneOk w = true := by
  have h1 := (isOrd_at h).1.1
  have hm := isOrd_all h
  have hn : w.length = 1 ∨ w.length = 2 ∨ w.length = 3 ∨ w.length = 4 ∨ w.length = 5 := by omega
  rcases hn with e | e | e | e | e <;> rw [e] at hm
  · exact one1 w hm
  · exact one2 w hm
  · exact one3 w hm
  · exact one4 w hm
  · exact one5 w hm
end Kd

/-! Every def's promise, from what the text's top has written. -/
namespace Kd
open PySem PySem.Spec PyProof.Rows L2 Evl
open PySem.W (nsIn keepIn codeIn fnOf)

def DD (K : PySem.W.Frag) (x : Str) (st : Stmt) : Prop := ∃ (f : Addr) (fd : FuncData), nsIn K mainGlobals x = some (some (.ref f)) ∧ C8.Fun K x x st f fd ∧ fd.defaults = .none ∧ keepIn K (.ref f) = true
section
variable {K : PySem.W.Frag} {x : Str} {st : Stmt} {f : Addr}
theorem dd_mk {od an : Option Addr} {sl : Array (Option Value)} {oc kV dc pm cd ct : Value} (a : nsIn K mainGlobals x = some (some (.ref f))) (l : K.lookup f = some ⟨oc, od, .func (fnOf x x (C8.fnArgs st) (C8.fnBody st) (C8.fnScope st) .none kV dc pm an cd ct), sl⟩) (c : codeIn K cd x = true) (k : keepIn K (.ref f) = true) : DD K x st :=
  ⟨f, _, a, ⟨⟨oc, od, .none, kV, dc, pm, an, cd, ct, sl, rfl, l, c⟩⟩, rfl, k⟩
theorem vals_rev : ∀ {vs : List V} {us : List Value}, Vals vs us → Vals vs.reverse us.reverse
  | _, _, .nil => .nil
  | _, _, .cons h t => by
    rw [List.reverse_cons, List.reverse_cons]
    exact (vals_rev t).append (.cons h .nil)
/-- a tuple of whole numbers of the text's top -/
theorem ktup {a : Addr} {ns : List Int} {its : Array Value} {d : Option Addr} {n : Nat} {sl : Array (Option Value)} (h : K.lookup a = some ⟨.type "tuple", d, .seq its n, sl⟩) (hv : Vals (ns.map V.int) its.toList) (hz : its.size ≤ sizeLine) : ∀ G, Rp K G (.ref a) (tI ns) := fun G =>
  .tup (.inr ⟨_, its, n, h, rfl, rfl, hz, hv⟩) (RpAll.ofInts ns)
theorem kkey {P : Program} {w : World} {h : Heap} {a : Addr} {ns : List Int} {its : Array Value} {d : Option Addr} {n : Nat} {sl : Array (Option Value)} (X : K.In h) (l : K.lookup a = some ⟨.type "tuple", d, .seq its n, sl⟩) (hv : Vals (ns.map V.int) its.toList) : (tupleKind (mixKind P w)).is h (ns.map Sum.inl) a :=
  ⟨_, its, n, X _ _ l, rfl, rfl, items_are (by rw [List.map_map]; exact hv)⟩
theorem kb_hash (P : Program) (w : World) : (tupleKind (mixKind P w)).hash ([4, 2, 3, 1].map Sum.inl) = -4851950088711270922 ∧ (tupleKind (mixKind P w)).hash ([3, 5, 1, 4, 2].map Sum.inl) = -2188798216975874898 ∧ (tupleKind (mixKind P w)).hash ([4, 2, 5, 1, 3].map Sum.inl) = -5573327935388844246 ∧ (tupleKind (mixKind P w)).hash ([3, 5, 1, 6, 2, 4].map Sum.inl) = 4520948684627972174 := ⟨by kernel_rfl, by kernel_rfl, by kernel_rfl, by kernel_rfl⟩
theorem vals_i : ∀ (ns : List Int) (ts : List Tok), ns.length = ts.length → Vals (ns.map V.int) ((ns.zip ts).map fun p => Value.int p.1 p.2)
  | [], [], _ => .nil
  | [], _ :: _, h => nomatch h
  | _ :: _, [], h => nomatch h
  | n :: ns, t :: ts, h => .cons ⟨t, rfl⟩ (vals_i ns ts (by simpa using h))
end
/-- the tuple at a holds these numbers -/
def KT6 (K : PySem.W.Frag) (a : Addr) (ns : List Int) : Prop := ∃ (its : Array Value) (d : Option Addr) (n : Nat) (sl : Array (Option Value)), K.lookup a = some ⟨.type "tuple", d, .seq its n, sl⟩ ∧ Vals (ns.map V.int) its.toList ∧ its.size ≤ sizeLine
theorem kt4 {K : PySem.W.Frag} {a : Addr} {x1 x2 x3 x4 : Int} {t1 t2 t3 t4 : Tok} {d : Option Addr} {n : Nat} {sl : Array (Option Value)} (h : K.lookup a = some ⟨.type "tuple", d, .seq #[.int x1 t1, .int x2 t2, .int x3 t3, .int x4 t4] n, sl⟩) : KT6 K a [x1, x2, x3, x4] := ⟨_, _, _, _, h, vals_i [x1, x2, x3, x4] [t1, t2, t3, t4] rfl, by show 4 ≤ sizeLine; decide⟩
theorem kt5 {K : PySem.W.Frag} {a : Addr} {x1 x2 x3 x4 x5 : Int} {t1 t2 t3 t4 t5 : Tok} {d : Option Addr} {n : Nat} {sl : Array (Option Value)} (h : K.lookup a = some ⟨.type "tuple", d, .seq #[.int x1 t1, .int x2 t2, .int x3 t3, .int x4 t4, .int x5 t5] n, sl⟩) : KT6 K a [x1, x2, x3, x4, x5] := ⟨_, _, _, _, h, vals_i [x1, x2, x3, x4, x5] [t1, t2, t3, t4, t5] rfl, by show 5 ≤ sizeLine; decide⟩
theorem kt6 {K : PySem.W.Frag} {a : Addr} {x1 x2 x3 x4 x5 x6 : Int} {t1 t2 t3 t4 t5 t6 : Tok} {d : Option Addr} {n : Nat} {sl : Array (Option Value)} (h : K.lookup a = some ⟨.type "tuple", d, .seq #[.int x1 t1, .int x2 t2, .int x3 t3, .int x4 t4, .int x5 t5, .int x6 t6] n, sl⟩) : KT6 K a [x1, x2, x3, x4, x5, x6] := ⟨_, _, _, _, h, vals_i [x1, x2, x3, x4, x5, x6] [t1, t2, t3, t4, t5, t6] rfl, by show 6 ≤ sizeLine; decide⟩
theorem KT6.rp {K : PySem.W.Frag} {a : Addr} {ns : List Int} (h : KT6 K a ns) : ∀ G, Rp K G (.ref a) (tI ns) := by
  obtain ⟨_, _, _, _, h1, h2, h3⟩ := h
  exact ktup h1 h2 h3
theorem KT6.key {K : PySem.W.Frag} {a : Addr} {ns : List Int} {P : Program} {w : World} {h : Heap} (X : K.In h) (t : KT6 K a ns) : (tupleKind (mixKind P w)).is h (ns.map Sum.inl) a := by
  obtain ⟨_, _, _, _, h1, h2, h3⟩ := t
  exact kkey X h1 h2
/-- what the top holds in FOUR and in BESIDE -/
def HF (K : PySem.W.Frag) (aF : Addr) : Prop := nsIn K mainGlobals "FOUR" = some (some (.ref aF)) ∧ ∀ G, Rp K G (.ref aF) (.tuple (fourL.map tI))
theorem hf_mk {K : PySem.W.Frag} {aF e0 e1 e2 e3 : Addr} {d : Option Addr} {n : Nat} {sl : Array (Option Value)} (a : nsIn K mainGlobals "FOUR" = some (some (.ref aF))) (l : K.lookup aF = some ⟨.type "tuple", d, .seq #[.ref e0, .ref e1, .ref e2, .ref e3] n, sl⟩)
    (l0 : KT6 K e0 [4, 2, 3, 1]) (l1 : KT6 K e1 [3, 5, 1, 4, 2]) (l2 : KT6 K e2 [4, 2, 5, 1, 3]) (l3 : KT6 K e3 [3, 5, 1, 6, 2, 4]) : HF K aF :=
  ⟨a, fun G => .tup (.inr ⟨_, _, n, l, rfl, rfl, by show 4 ≤ sizeLine; decide, (.cons rfl (.cons rfl (.cons rfl (.cons rfl .nil))) : Vals [.ref e0, .ref e1, .ref e2, .ref e3] _)⟩) (.cons (l0.rp G) (.cons (l1.rp G) (.cons (l2.rp G) (.cons (l3.rp G) .nil))))⟩
def HBs (K : PySem.W.Frag) (aB : Addr) (xs : List (List Key × Addr × Addr)) : Prop := nsIn K mainGlobals "BESIDE" = some (some (.ref aB)) ∧ DK K aB xs ∧ HB K xs
theorem hb_mk {K : PySem.W.Frag} {aB k0 k1 k2 k3 v0 v1 v2 v3 : Addr} {n : Nat} (a : nsIn K mainGlobals "BESIDE" = some (some (.ref aB)))
    (l : K.lookup aB = some ⟨.type "dict", none, .dict #[⟨-4851950088711270922, .ref k0, .ref v0⟩, ⟨-2188798216975874898, .ref k1, .ref v1⟩, ⟨-5573327935388844246, .ref k2, .ref v2⟩, ⟨4520948684627972174, .ref k3, .ref v3⟩] n, #[]⟩)
    (a0 : KT6 K k0 [4, 2, 3, 1]) (a1 : KT6 K k1 [3, 5, 1, 4, 2]) (a2 : KT6 K k2 [4, 2, 5, 1, 3]) (a3 : KT6 K k3 [3, 5, 1, 6, 2, 4]) (b0 : KT6 K v0 [3, 4, 1, 2]) (b1 : KT6 K v1 [1, 4, 5, 2, 3]) (b2 : KT6 K v2 [3, 4, 1, 2, 5]) (b3 : KT6 K v3 [1, 4, 5, 2, 3, 6]) :
    HBs K aB [([4, 2, 3, 1].map Sum.inl, k0, v0), ([3, 5, 1, 4, 2].map Sum.inl, k1, v1), ([4, 2, 5, 1, 3].map Sum.inl, k2, v2), ([3, 5, 1, 6, 2, 4].map Sum.inl, k3, v3)] := by
  refine ⟨a, fun P w h X => ⟨_, _, n, X _ _ l, ⟨rfl, rfl, rfl⟩, rfl, ?_, fun x hx => ?_, ?_⟩, ⟨fun wy hwy => ?_⟩⟩
  · obtain ⟨h0, h1, h2, h3⟩ := kb_hash P w
    have e : ∀ l : List DictEntry, l = [⟨(tupleKind (mixKind P w)).hash ([4, 2, 3, 1].map Sum.inl), .ref k0, .ref v0⟩, ⟨(tupleKind (mixKind P w)).hash ([3, 5, 1, 4, 2].map Sum.inl), .ref k1, .ref v1⟩, ⟨(tupleKind (mixKind P w)).hash ([4, 2, 5, 1, 3].map Sum.inl), .ref k2, .ref v2⟩, ⟨(tupleKind (mixKind P w)).hash ([3, 5, 1, 6, 2, 4].map Sum.inl), .ref k3, .ref v3⟩] → l = ([([4, 2, 3, 1].map Sum.inl, k0, v0), ([3, 5, 1, 4, 2].map Sum.inl, k1, v1), ([4, 2, 5, 1, 3].map Sum.inl, k2, v2), ([3, 5, 1, 6, 2, 4].map Sum.inl, k3, v3)].map fun x : List Key × Addr × Addr => (x.1, x.2.1, Value.ref x.2.2)).map (entryOfKey (tupleKind (mixKind P w))) := fun l h => h
    refine e _ ?_
    rw [h0, h1, h2, h3]
  · simp only [List.map_cons, List.map_nil, List.mem_cons, List.not_mem_nil, or_false] at hx
    rcases hx with rfl | rfl | rfl | rfl
    · exact a0.key X
    · exact a1.key X
    · exact a2.key X
    · exact a3.key X
  · show ([[4, 2, 3, 1].map Sum.inl, [3, 5, 1, 4, 2].map Sum.inl, [4, 2, 5, 1, 3].map Sum.inl, [3, 5, 1, 6, 2, 4].map Sum.inl] : List (List Key)).Nodup
    have ne : ∀ a b : List Int, a ≠ b → (a.map Sum.inl : List Key) ≠ b.map Sum.inl := fun a b h z => h (kI_inj z)
    simp only [List.nodup_cons, List.mem_cons, List.not_mem_nil, or_false, not_or, List.nodup_nil, and_true, not_false_eq_true]
    exact ⟨⟨ne _ _ (by decide), ne _ _ (by decide), ne _ _ (by decide)⟩, ⟨ne _ _ (by decide), ne _ _ (by decide)⟩, ne _ _ (by decide)⟩
  · have : wy = [4, 2, 3, 1] ∨ wy = [3, 5, 1, 4, 2] ∨ wy = [4, 2, 5, 1, 3] ∨ wy = [3, 5, 1, 6, 2, 4] := by simpa [fourL] using hwy
    rcases this with rfl | rfl | rfl | rfl
    · exact ⟨(k0, v0), rfl, b0.rp⟩
    · exact ⟨(k1, v1), rfl, b1.rp⟩
    · exact ⟨(k2, v2), rfl, b2.rp⟩
    · exact ⟨(k3, v3), rfl, b3.rp⟩

structure BK (K : PySem.W.Frag) : Prop where
  len_ : nsIn K mainGlobals "len" = some none
  all_ : nsIn K mainGlobals "all" = some none
  any_ : nsIn K mainGlobals "any" = some none
  sum_ : nsIn K mainGlobals "sum" = some none
  min_ : nsIn K mainGlobals "min" = some none
  max_ : nsIn K mainGlobals "max" = some none
  sorted_ : nsIn K mainGlobals "sorted" = some none
  abs_ : nsIn K mainGlobals "abs" = some none
  divmod_ : nsIn K mainGlobals "divmod" = some none
  isinstance_ : nsIn K mainGlobals "isinstance" = some none
  int_ : nsIn K mainGlobals "int" = some none
  bool_ : nsIn K mainGlobals "bool" = some none
  list_ : nsIn K mainGlobals "list" = some none
  tuple_ : nsIn K mainGlobals "tuple" = some none
  zip_ : nsIn K mainGlobals "zip" = some none
  enumerate_ : nsIn K mainGlobals "enumerate" = some none
  range_ : nsIn K mainGlobals "range" = some none
theorem BK.bi {K : PySem.W.Frag} {h : Heap} {mg : Str → Option Value} (X : K.In h) (G : h.Ns mainGlobals mg) (b : BK K) : BI mg := ⟨PySem.W.mg_none_of X G b.len_, PySem.W.mg_none_of X G b.all_, PySem.W.mg_none_of X G b.any_, PySem.W.mg_none_of X G b.sum_, PySem.W.mg_none_of X G b.min_, PySem.W.mg_none_of X G b.max_, PySem.W.mg_none_of X G b.sorted_, PySem.W.mg_none_of X G b.abs_, PySem.W.mg_none_of X G b.divmod_, PySem.W.mg_none_of X G b.isinstance_, PySem.W.mg_none_of X G b.int_, PySem.W.mg_none_of X G b.bool_, PySem.W.mg_none_of X G b.list_, PySem.W.mg_none_of X G b.tuple_, PySem.W.mg_none_of X G b.zip_, PySem.W.mg_none_of X G b.enumerate_, PySem.W.mg_none_of X G b.range_⟩
theorem law_all {l : PySem.W.OpenLaw} {w : World} {K : PySem.W.Frag} {h : Heap} {mg : Str → Option Value} {fa aF aB : Addr} {xs : List (List Key × Addr × Addr)} {t1 t2 t3 : Tok} (X : K.In h) (G : h.Ns mainGlobals mg) (hfa : mg "law" = some (.ref fa)) (b : BK K)
    (m1 : nsIn K mainGlobals "MOST_THINGS_basics" = some (some (.int 9 t1))) (m2 : nsIn K mainGlobals "MOST_PLACES" = some (some (.int 9 t2))) (m3 : nsIn K mainGlobals "MOST_THINGS_lists" = some (some (.int 6 t3))) (hF : HF K aF) (hBs : HBs K aB xs)
    (d_is_integer : DD K "is_integer" sis_integer)
    (d_is_list : DD K "is_list" sis_list)
    (d_is_order : DD K "is_order" sis_order)
    (d_want_at_most : DD K "want_at_most" swant_at_most)
    (d_want_order : DD K "want_order" swant_order)
    (d_want_alike : DD K "want_alike" swant_alike)
    (d_done : DD K "done" sdone)
    (d_has_between : DD K "has_between" shas_between)
    (d_is_step_down : DD K "is_step_down" sis_step_down)
    (d_exchanges_of : DD K "exchanges_of" sexchanges_of)
    (d_steps_down : DD K "steps_down" ssteps_down)
    (d_is_lower : DD K "is_lower" sis_lower)
    (d_want_two : DD K "want_two" swant_two)
    (d_is_below : DD K "is_below" sis_below)
    (d_is_stretch : DD K "is_stretch" sis_stretch)
    (d_is_board : DD K "is_board" sis_board)
    (d_want_board : DD K "want_board" swant_board)
    (d_board_in : DD K "board_in" sboard_in)
    (d_board_of : DD K "board_of" sboard_of)
    (d_lays : DD K "lays" slays)
    (d_is_laying : DD K "is_laying" sis_laying)
    (d_told_order : DD K "told_order" stold_order)
    (d_fits : DD K "fits" sfits)
    (d_standings_in : DD K "standings_in" sstandings_in)
    (d_first_in : DD K "first_in" sfirst_in)
    (d_way_in : DD K "way_in" sway_in)
    (d_is_free : DD K "is_free" sis_free)
    (d_laid_at : DD K "laid_at" slaid_at)
    (d_paper_of : DD K "paper_of" spaper_of)
    (d_beyond : DD K "beyond" sbeyond)
    (d_is_beyond : DD K "is_beyond" sis_beyond)
    (d_bit_of : DD K "bit_of" sbit_of)
    (d_free_in : DD K "free_in" sfree_in)
    (d_size_of : DD K "size_of" ssize_of)
    (d_lots_of : DD K "lots_of" slots_of)
    (d_ways_left : DD K "ways_left" sways_left)
    (d_all_things : DD K "all_things" sall_things)
    (d_how_many : DD K "how_many" show_many)
    (d_want_few : DD K "want_few" swant_few)
    (d_next_level : DD K "next_level" snext_level)
    (d_levels_from : DD K "levels_from" slevels_from)
    (d_below_of : DD K "below_of" sbelow_of)
    (d_all_below : DD K "all_below" sall_below)
    (d__law_pot : DD K "_law_pot" s_law_pot)
    (d__law_draw : DD K "_law_draw" s_law_draw)
    (d__law_pick : DD K "_law_pick" s_law_pick)
    (d__law_order : DD K "_law_order" s_law_order)
    (d__law_passed : DD K "_law_passed" s_law_passed)
    (d__law_raised : DD K "_law_raised" s_law_raised)
    (d__law_four : DD K "_law_four" s_law_four)
    (d__law_drawn : DD K "_law_drawn" s_law_drawn)
    (d__law_counted : DD K "_law_counted" s_law_counted)
    (d__law_is_below : DD K "_law_is_below" s_law_is_below)
    (d__law_is_on : DD K "_law_is_on" s_law_is_on)
    (d__law_all : DD K "_law_all" s_law_all)
    (d__law_one_right : DD K "_law_one_right" s_law_one_right)
    (d__law_six_right : DD K "_law_six_right" s_law_six_right)
    (d__law_right : DD K "_law_right" s_law_right)
    (d_law : DD K "law" slaw)
    : ∃ fd : FuncData, (∀ (s : Shared) (v : Value), BindsTo s fd ⟨[v], []⟩ [("_law_script", v)]) ∧ ∀ base : Heap, K.In base → base.Ns mainGlobals mg → FnOk l.prog w K mg base C8.CX0 10 fa fd ["_law_script"] (sp_law K) := by
  have T := b.bi X G
  have g_MOST_THINGS_basics : ∃ u, mg "MOST_THINGS_basics" = some u ∧ RelV (.int 9) u := ⟨_, PySem.W.mg_of X G m1, t1, rfl⟩
  have g_MOST_PLACES : ∃ u, mg "MOST_PLACES" = some u ∧ RelV (.int 9) u := ⟨_, PySem.W.mg_of X G m2, t2, rfl⟩
  have g_MOST_THINGS_lists : ∃ u, mg "MOST_THINGS_lists" = some u ∧ RelV (.int 6) u := ⟨_, PySem.W.mg_of X G m3, t3, rfl⟩
  have g_FOUR : ∃ u, mg "FOUR" = some u ∧ RelV (.ref aF) u := ⟨_, PySem.W.mg_of X G hF.1, rfl⟩
  have r_FOUR := hF.2
  have g_BESIDE : ∃ u, mg "BESIDE" = some u ∧ RelV (.ref aB) u := ⟨_, PySem.W.mg_of X G hBs.1, rfl⟩
  have k_BESIDE := hBs.2.1
  have hB := hBs.2.2
  obtain ⟨f_is_integer, fd_is_integer, n_is_integer, F_is_integer, df_is_integer, kp_is_integer⟩ := d_is_integer
  have D_is_integer : C8.Def K mg "is_integer" sis_integer f_is_integer fd_is_integer := ⟨F_is_integer, PySem.W.mg_of X G n_is_integer, kp_is_integer⟩
  have B_is_integer : Binds K fd_is_integer ["value"] [] := F_is_integer.binds df_is_integer fun _ _ _ _ _ _ us hl => match us, hl with | [_], _ => rfl
  obtain ⟨f_is_list, fd_is_list, n_is_list, F_is_list, df_is_list, kp_is_list⟩ := d_is_list
  have D_is_list : C8.Def K mg "is_list" sis_list f_is_list fd_is_list := ⟨F_is_list, PySem.W.mg_of X G n_is_list, kp_is_list⟩
  have B_is_list : Binds K fd_is_list ["value"] [] := F_is_list.binds df_is_list fun _ _ _ _ _ _ us hl => match us, hl with | [_], _ => rfl
  obtain ⟨f_is_order, fd_is_order, n_is_order, F_is_order, df_is_order, kp_is_order⟩ := d_is_order
  have D_is_order : C8.Def K mg "is_order" sis_order f_is_order fd_is_order := ⟨F_is_order, PySem.W.mg_of X G n_is_order, kp_is_order⟩
  have B_is_order : Binds K fd_is_order ["value"] [] := F_is_order.binds df_is_order fun _ _ _ _ _ _ us hl => match us, hl with | [_], _ => rfl
  obtain ⟨f_want_at_most, fd_want_at_most, n_want_at_most, F_want_at_most, df_want_at_most, kp_want_at_most⟩ := d_want_at_most
  have D_want_at_most : C8.Def K mg "want_at_most" swant_at_most f_want_at_most fd_want_at_most := ⟨F_want_at_most, PySem.W.mg_of X G n_want_at_most, kp_want_at_most⟩
  have B_want_at_most : Binds K fd_want_at_most ["what", "limit", "number"] [] := F_want_at_most.binds df_want_at_most fun _ _ _ _ _ _ us hl => match us, hl with | [_, _, _], _ => rfl
  obtain ⟨f_want_order, fd_want_order, n_want_order, F_want_order, df_want_order, kp_want_order⟩ := d_want_order
  have D_want_order : C8.Def K mg "want_order" swant_order f_want_order fd_want_order := ⟨F_want_order, PySem.W.mg_of X G n_want_order, kp_want_order⟩
  have B_want_order : Binds K fd_want_order ["value"] [] := F_want_order.binds df_want_order fun _ _ _ _ _ _ us hl => match us, hl with | [_], _ => rfl
  obtain ⟨f_want_alike, fd_want_alike, n_want_alike, F_want_alike, df_want_alike, kp_want_alike⟩ := d_want_alike
  have D_want_alike : C8.Def K mg "want_alike" swant_alike f_want_alike fd_want_alike := ⟨F_want_alike, PySem.W.mg_of X G n_want_alike, kp_want_alike⟩
  have B_want_alike : Binds K fd_want_alike ["order", "other"] [] := F_want_alike.binds df_want_alike fun _ _ _ _ _ _ us hl => match us, hl with | [_, _], _ => rfl
  obtain ⟨f_done, fd_done, n_done, F_done, df_done, kp_done⟩ := d_done
  have D_done : C8.Def K mg "done" sdone f_done fd_done := ⟨F_done, PySem.W.mg_of X G n_done, kp_done⟩
  have B_done : Binds K fd_done ["order", "exchange"] [] := F_done.binds df_done fun _ _ _ _ _ _ us hl => match us, hl with | [_, _], _ => rfl
  obtain ⟨f_has_between, fd_has_between, n_has_between, F_has_between, df_has_between, kp_has_between⟩ := d_has_between
  have D_has_between : C8.Def K mg "has_between" shas_between f_has_between fd_has_between := ⟨F_has_between, PySem.W.mg_of X G n_has_between, kp_has_between⟩
  have B_has_between : Binds K fd_has_between ["order", "first", "second", "low", "high"] [] := F_has_between.binds df_has_between fun _ _ _ _ _ _ us hl => match us, hl with | [_, _, _, _, _], _ => rfl
  obtain ⟨f_is_step_down, fd_is_step_down, n_is_step_down, F_is_step_down, df_is_step_down, kp_is_step_down⟩ := d_is_step_down
  have D_is_step_down : C8.Def K mg "is_step_down" sis_step_down f_is_step_down fd_is_step_down := ⟨F_is_step_down, PySem.W.mg_of X G n_is_step_down, kp_is_step_down⟩
  have B_is_step_down : Binds K fd_is_step_down ["order", "exchange"] [] := F_is_step_down.binds df_is_step_down fun _ _ _ _ _ _ us hl => match us, hl with | [_, _], _ => rfl
  obtain ⟨f_exchanges_of, fd_exchanges_of, n_exchanges_of, F_exchanges_of, df_exchanges_of, kp_exchanges_of⟩ := d_exchanges_of
  have D_exchanges_of : C8.Def K mg "exchanges_of" sexchanges_of f_exchanges_of fd_exchanges_of := ⟨F_exchanges_of, PySem.W.mg_of X G n_exchanges_of, kp_exchanges_of⟩
  have B_exchanges_of : Binds K fd_exchanges_of ["size"] [] := F_exchanges_of.binds df_exchanges_of fun _ _ _ _ _ _ us hl => match us, hl with | [_], _ => rfl
  obtain ⟨f_steps_down, fd_steps_down, n_steps_down, F_steps_down, df_steps_down, kp_steps_down⟩ := d_steps_down
  have D_steps_down : C8.Def K mg "steps_down" ssteps_down f_steps_down fd_steps_down := ⟨F_steps_down, PySem.W.mg_of X G n_steps_down, kp_steps_down⟩
  have B_steps_down : Binds K fd_steps_down ["order"] [] := F_steps_down.binds df_steps_down fun _ _ _ _ _ _ us hl => match us, hl with | [_], _ => rfl
  obtain ⟨f_is_lower, fd_is_lower, n_is_lower, F_is_lower, df_is_lower, kp_is_lower⟩ := d_is_lower
  have D_is_lower : C8.Def K mg "is_lower" sis_lower f_is_lower fd_is_lower := ⟨F_is_lower, PySem.W.mg_of X G n_is_lower, kp_is_lower⟩
  have B_is_lower : Binds K fd_is_lower ["order", "other"] [] := F_is_lower.binds df_is_lower fun _ _ _ _ _ _ us hl => match us, hl with | [_, _], _ => rfl
  obtain ⟨f_want_two, fd_want_two, n_want_two, F_want_two, df_want_two, kp_want_two⟩ := d_want_two
  have D_want_two : C8.Def K mg "want_two" swant_two f_want_two fd_want_two := ⟨F_want_two, PySem.W.mg_of X G n_want_two, kp_want_two⟩
  have B_want_two : Binds K fd_want_two ["order", "other"] [] := F_want_two.binds df_want_two fun _ _ _ _ _ _ us hl => match us, hl with | [_, _], _ => rfl
  obtain ⟨f_is_below, fd_is_below, n_is_below, F_is_below, df_is_below, kp_is_below⟩ := d_is_below
  have D_is_below : C8.Def K mg "is_below" sis_below f_is_below fd_is_below := ⟨F_is_below, PySem.W.mg_of X G n_is_below, kp_is_below⟩
  have B_is_below : Binds K fd_is_below ["order", "other"] [] := F_is_below.binds df_is_below fun _ _ _ _ _ _ us hl => match us, hl with | [_, _], _ => rfl
  obtain ⟨f_is_stretch, fd_is_stretch, n_is_stretch, F_is_stretch, df_is_stretch, kp_is_stretch⟩ := d_is_stretch
  have D_is_stretch : C8.Def K mg "is_stretch" sis_stretch f_is_stretch fd_is_stretch := ⟨F_is_stretch, PySem.W.mg_of X G n_is_stretch, kp_is_stretch⟩
  have B_is_stretch : Binds K fd_is_stretch ["value", "place", "many"] [] := F_is_stretch.binds df_is_stretch fun _ _ _ _ _ _ us hl => match us, hl with | [_, _, _], _ => rfl
  obtain ⟨f_is_board, fd_is_board, n_is_board, F_is_board, df_is_board, kp_is_board⟩ := d_is_board
  have D_is_board : C8.Def K mg "is_board" sis_board f_is_board fd_is_board := ⟨F_is_board, PySem.W.mg_of X G n_is_board, kp_is_board⟩
  have B_is_board : Binds K fd_is_board ["value"] [] := F_is_board.binds df_is_board fun _ _ _ _ _ _ us hl => match us, hl with | [_], _ => rfl
  obtain ⟨f_want_board, fd_want_board, n_want_board, F_want_board, df_want_board, kp_want_board⟩ := d_want_board
  have D_want_board : C8.Def K mg "want_board" swant_board f_want_board fd_want_board := ⟨F_want_board, PySem.W.mg_of X G n_want_board, kp_want_board⟩
  have B_want_board : Binds K fd_want_board ["value"] [] := F_want_board.binds df_want_board fun _ _ _ _ _ _ us hl => match us, hl with | [_], _ => rfl
  obtain ⟨f_board_in, fd_board_in, n_board_in, F_board_in, df_board_in, kp_board_in⟩ := d_board_in
  have D_board_in : C8.Def K mg "board_in" sboard_in f_board_in fd_board_in := ⟨F_board_in, PySem.W.mg_of X G n_board_in, kp_board_in⟩
  have B_board_in : Binds K fd_board_in ["order"] [] := F_board_in.binds df_board_in fun _ _ _ _ _ _ us hl => match us, hl with | [_], _ => rfl
  obtain ⟨f_board_of, fd_board_of, n_board_of, F_board_of, df_board_of, kp_board_of⟩ := d_board_of
  have D_board_of : C8.Def K mg "board_of" sboard_of f_board_of fd_board_of := ⟨F_board_of, PySem.W.mg_of X G n_board_of, kp_board_of⟩
  have B_board_of : Binds K fd_board_of ["order"] [] := F_board_of.binds df_board_of fun _ _ _ _ _ _ us hl => match us, hl with | [_], _ => rfl
  obtain ⟨f_lays, fd_lays, n_lays, F_lays, df_lays, kp_lays⟩ := d_lays
  have D_lays : C8.Def K mg "lays" slays f_lays fd_lays := ⟨F_lays, PySem.W.mg_of X G n_lays, kp_lays⟩
  have B_lays : Binds K fd_lays ["board", "order"] [] := F_lays.binds df_lays fun _ _ _ _ _ _ us hl => match us, hl with | [_, _], _ => rfl
  obtain ⟨f_is_laying, fd_is_laying, n_is_laying, F_is_laying, df_is_laying, kp_is_laying⟩ := d_is_laying
  have D_is_laying : C8.Def K mg "is_laying" sis_laying f_is_laying fd_is_laying := ⟨F_is_laying, PySem.W.mg_of X G n_is_laying, kp_is_laying⟩
  have B_is_laying : Binds K fd_is_laying ["board", "order"] [] := F_is_laying.binds df_is_laying fun _ _ _ _ _ _ us hl => match us, hl with | [_, _], _ => rfl
  obtain ⟨f_told_order, fd_told_order, n_told_order, F_told_order, df_told_order, kp_told_order⟩ := d_told_order
  have D_told_order : C8.Def K mg "told_order" stold_order f_told_order fd_told_order := ⟨F_told_order, PySem.W.mg_of X G n_told_order, kp_told_order⟩
  have B_told_order : Binds K fd_told_order ["value"] [] := F_told_order.binds df_told_order fun _ _ _ _ _ _ us hl => match us, hl with | [_], _ => rfl
  obtain ⟨f_fits, fd_fits, n_fits, F_fits, df_fits, kp_fits⟩ := d_fits
  have D_fits : C8.Def K mg "fits" sfits f_fits fd_fits := ⟨F_fits, PySem.W.mg_of X G n_fits, kp_fits⟩
  have B_fits : Binds K fd_fits ["things", "way"] [] := F_fits.binds df_fits fun _ _ _ _ _ _ us hl => match us, hl with | [_, _], _ => rfl
  obtain ⟨f_standings_in, fd_standings_in, n_standings_in, F_standings_in, df_standings_in, kp_standings_in⟩ := d_standings_in
  have D_standings_in : C8.Def K mg "standings_in" sstandings_in f_standings_in fd_standings_in := ⟨F_standings_in, PySem.W.mg_of X G n_standings_in, kp_standings_in⟩
  have B_standings_in : Binds K fd_standings_in ["order", "way"] [] := F_standings_in.binds df_standings_in fun _ _ _ _ _ _ us hl => match us, hl with | [_, _], _ => rfl
  obtain ⟨f_first_in, fd_first_in, n_first_in, F_first_in, df_first_in, kp_first_in⟩ := d_first_in
  have D_first_in : C8.Def K mg "first_in" sfirst_in f_first_in fd_first_in := ⟨F_first_in, PySem.W.mg_of X G n_first_in, kp_first_in⟩
  have B_first_in : Binds K fd_first_in ["order", "way"] [] := F_first_in.binds df_first_in fun _ _ _ _ _ _ us hl => match us, hl with | [_, _], _ => rfl
  obtain ⟨f_way_in, fd_way_in, n_way_in, F_way_in, df_way_in, kp_way_in⟩ := d_way_in
  have D_way_in : C8.Def K mg "way_in" sway_in f_way_in fd_way_in := ⟨F_way_in, PySem.W.mg_of X G n_way_in, kp_way_in⟩
  have B_way_in : Binds K fd_way_in ["order", "ways"] [] := F_way_in.binds df_way_in fun _ _ _ _ _ _ us hl => match us, hl with | [_, _], _ => rfl
  obtain ⟨f_is_free, fd_is_free, n_is_free, F_is_free, df_is_free, kp_is_free⟩ := d_is_free
  have D_is_free : C8.Def K mg "is_free" sis_free f_is_free fd_is_free := ⟨F_is_free, PySem.W.mg_of X G n_is_free, kp_is_free⟩
  have B_is_free : Binds K fd_is_free ["order"] [] := F_is_free.binds df_is_free fun _ _ _ _ _ _ us hl => match us, hl with | [_], _ => rfl
  obtain ⟨f_laid_at, fd_laid_at, n_laid_at, F_laid_at, df_laid_at, kp_laid_at⟩ := d_laid_at
  have D_laid_at : C8.Def K mg "laid_at" slaid_at f_laid_at fd_laid_at := ⟨F_laid_at, PySem.W.mg_of X G n_laid_at, kp_laid_at⟩
  have B_laid_at : Binds K fd_laid_at ["order", "places", "way"] [] := F_laid_at.binds df_laid_at fun _ _ _ _ _ _ us hl => match us, hl with | [_, _, _], _ => rfl
  obtain ⟨f_paper_of, fd_paper_of, n_paper_of, F_paper_of, df_paper_of, kp_paper_of⟩ := d_paper_of
  have D_paper_of : C8.Def K mg "paper_of" spaper_of f_paper_of fd_paper_of := ⟨F_paper_of, PySem.W.mg_of X G n_paper_of, kp_paper_of⟩
  have B_paper_of : Binds K fd_paper_of ["order"] [] := F_paper_of.binds df_paper_of fun _ _ _ _ _ _ us hl => match us, hl with | [_], _ => rfl
  obtain ⟨f_beyond, fd_beyond, n_beyond, F_beyond, df_beyond, kp_beyond⟩ := d_beyond
  have D_beyond : C8.Def K mg "beyond" sbeyond f_beyond fd_beyond := ⟨F_beyond, PySem.W.mg_of X G n_beyond, kp_beyond⟩
  have B_beyond : Binds K fd_beyond ["order"] [] := F_beyond.binds df_beyond fun _ _ _ _ _ _ us hl => match us, hl with | [_], _ => rfl
  obtain ⟨f_is_beyond, fd_is_beyond, n_is_beyond, F_is_beyond, df_is_beyond, kp_is_beyond⟩ := d_is_beyond
  have D_is_beyond : C8.Def K mg "is_beyond" sis_beyond f_is_beyond fd_is_beyond := ⟨F_is_beyond, PySem.W.mg_of X G n_is_beyond, kp_is_beyond⟩
  have B_is_beyond : Binds K fd_is_beyond ["order", "value"] [] := F_is_beyond.binds df_is_beyond fun _ _ _ _ _ _ us hl => match us, hl with | [_, _], _ => rfl
  obtain ⟨f_bit_of, fd_bit_of, n_bit_of, F_bit_of, df_bit_of, kp_bit_of⟩ := d_bit_of
  have D_bit_of : C8.Def K mg "bit_of" sbit_of f_bit_of fd_bit_of := ⟨F_bit_of, PySem.W.mg_of X G n_bit_of, kp_bit_of⟩
  have B_bit_of : Binds K fd_bit_of ["thing"] [] := F_bit_of.binds df_bit_of fun _ _ _ _ _ _ us hl => match us, hl with | [_], _ => rfl
  obtain ⟨f_free_in, fd_free_in, n_free_in, F_free_in, df_free_in, kp_free_in⟩ := d_free_in
  have D_free_in : C8.Def K mg "free_in" sfree_in f_free_in fd_free_in := ⟨F_free_in, PySem.W.mg_of X G n_free_in, kp_free_in⟩
  have B_free_in : Binds K fd_free_in ["stretch", "free"] [] := F_free_in.binds df_free_in fun _ _ _ _ _ _ us hl => match us, hl with | [_, _], _ => rfl
  obtain ⟨f_size_of, fd_size_of, n_size_of, F_size_of, df_size_of, kp_size_of⟩ := d_size_of
  have D_size_of : C8.Def K mg "size_of" ssize_of f_size_of fd_size_of := ⟨F_size_of, PySem.W.mg_of X G n_size_of, kp_size_of⟩
  have B_size_of : Binds K fd_size_of ["lot"] [] := F_size_of.binds df_size_of fun _ _ _ _ _ _ us hl => match us, hl with | [_], _ => rfl
  obtain ⟨f_lots_of, fd_lots_of, n_lots_of, F_lots_of, df_lots_of, kp_lots_of⟩ := d_lots_of
  have D_lots_of : C8.Def K mg "lots_of" slots_of f_lots_of fd_lots_of := ⟨F_lots_of, PySem.W.mg_of X G n_lots_of, kp_lots_of⟩
  have B_lots_of : Binds K fd_lots_of ["many"] [] := F_lots_of.binds df_lots_of fun _ _ _ _ _ _ us hl => match us, hl with | [_], _ => rfl
  obtain ⟨f_ways_left, fd_ways_left, n_ways_left, F_ways_left, df_ways_left, kp_ways_left⟩ := d_ways_left
  have D_ways_left : C8.Def K mg "ways_left" sways_left f_ways_left fd_ways_left := ⟨F_ways_left, PySem.W.mg_of X G n_ways_left, kp_ways_left⟩
  have B_ways_left : Binds K fd_ways_left ["board"] [] := F_ways_left.binds df_ways_left fun _ _ _ _ _ _ us hl => match us, hl with | [_], _ => rfl
  obtain ⟨f_all_things, fd_all_things, n_all_things, F_all_things, df_all_things, kp_all_things⟩ := d_all_things
  have D_all_things : C8.Def K mg "all_things" sall_things f_all_things fd_all_things := ⟨F_all_things, PySem.W.mg_of X G n_all_things, kp_all_things⟩
  have B_all_things : Binds K fd_all_things ["board"] [] := F_all_things.binds df_all_things fun _ _ _ _ _ _ us hl => match us, hl with | [_], _ => rfl
  obtain ⟨f_how_many, fd_how_many, n_how_many, F_how_many, df_how_many, kp_how_many⟩ := d_how_many
  have D_how_many : C8.Def K mg "how_many" show_many f_how_many fd_how_many := ⟨F_how_many, PySem.W.mg_of X G n_how_many, kp_how_many⟩
  have B_how_many : Binds K fd_how_many ["board"] [] := F_how_many.binds df_how_many fun _ _ _ _ _ _ us hl => match us, hl with | [_], _ => rfl
  obtain ⟨f_want_few, fd_want_few, n_want_few, F_want_few, df_want_few, kp_want_few⟩ := d_want_few
  have D_want_few : C8.Def K mg "want_few" swant_few f_want_few fd_want_few := ⟨F_want_few, PySem.W.mg_of X G n_want_few, kp_want_few⟩
  have B_want_few : Binds K fd_want_few ["order"] [] := F_want_few.binds df_want_few fun _ _ _ _ _ _ us hl => match us, hl with | [_], _ => rfl
  obtain ⟨f_next_level, fd_next_level, n_next_level, F_next_level, df_next_level, kp_next_level⟩ := d_next_level
  have D_next_level : C8.Def K mg "next_level" snext_level f_next_level fd_next_level := ⟨F_next_level, PySem.W.mg_of X G n_next_level, kp_next_level⟩
  have B_next_level : Binds K fd_next_level ["orders", "steps"] [] := F_next_level.binds df_next_level fun _ _ _ _ _ _ us hl => match us, hl with | [_, _], _ => rfl
  obtain ⟨f_levels_from, fd_levels_from, n_levels_from, F_levels_from, df_levels_from, kp_levels_from⟩ := d_levels_from
  have D_levels_from : C8.Def K mg "levels_from" slevels_from f_levels_from fd_levels_from := ⟨F_levels_from, PySem.W.mg_of X G n_levels_from, kp_levels_from⟩
  have B_levels_from : Binds K fd_levels_from ["order", "steps"] [] := F_levels_from.binds df_levels_from fun _ _ _ _ _ _ us hl => match us, hl with | [_, _], _ => rfl
  obtain ⟨f_below_of, fd_below_of, n_below_of, F_below_of, df_below_of, kp_below_of⟩ := d_below_of
  have D_below_of : C8.Def K mg "below_of" sbelow_of f_below_of fd_below_of := ⟨F_below_of, PySem.W.mg_of X G n_below_of, kp_below_of⟩
  have B_below_of : Binds K fd_below_of ["order"] [] := F_below_of.binds df_below_of fun _ _ _ _ _ _ us hl => match us, hl with | [_], _ => rfl
  obtain ⟨f_all_below, fd_all_below, n_all_below, F_all_below, df_all_below, kp_all_below⟩ := d_all_below
  have D_all_below : C8.Def K mg "all_below" sall_below f_all_below fd_all_below := ⟨F_all_below, PySem.W.mg_of X G n_all_below, kp_all_below⟩
  have B_all_below : Binds K fd_all_below ["order"] [] := F_all_below.binds df_all_below fun _ _ _ _ _ _ us hl => match us, hl with | [_], _ => rfl
  obtain ⟨f__law_pot, fd__law_pot, n__law_pot, F__law_pot, df__law_pot, kp__law_pot⟩ := d__law_pot
  have D__law_pot : C8.Def K mg "_law_pot" s_law_pot f__law_pot fd__law_pot := ⟨F__law_pot, PySem.W.mg_of X G n__law_pot, kp__law_pot⟩
  have B__law_pot : Binds K fd__law_pot ["_law_script", "_law_k"] [] := F__law_pot.binds df__law_pot fun _ _ _ _ _ _ us hl => match us, hl with | [_, _], _ => rfl
  obtain ⟨f__law_draw, fd__law_draw, n__law_draw, F__law_draw, df__law_draw, kp__law_draw⟩ := d__law_draw
  have D__law_draw : C8.Def K mg "_law_draw" s_law_draw f__law_draw fd__law_draw := ⟨F__law_draw, PySem.W.mg_of X G n__law_draw, kp__law_draw⟩
  have B__law_draw : Binds K fd__law_draw ["_law_pot_here", "_law_size"] [] := F__law_draw.binds df__law_draw fun _ _ _ _ _ _ us hl => match us, hl with | [_, _], _ => rfl
  obtain ⟨f__law_pick, fd__law_pick, n__law_pick, F__law_pick, df__law_pick, kp__law_pick⟩ := d__law_pick
  have D__law_pick : C8.Def K mg "_law_pick" s_law_pick f__law_pick fd__law_pick := ⟨F__law_pick, PySem.W.mg_of X G n__law_pick, kp__law_pick⟩
  have B__law_pick : Binds K fd__law_pick ["_law_pot_here", "_law_some"] [] := F__law_pick.binds df__law_pick fun _ _ _ _ _ _ us hl => match us, hl with | [_, _], _ => rfl
  obtain ⟨f__law_order, fd__law_order, n__law_order, F__law_order, df__law_order, kp__law_order⟩ := d__law_order
  have D__law_order : C8.Def K mg "_law_order" s_law_order f__law_order fd__law_order := ⟨F__law_order, PySem.W.mg_of X G n__law_order, kp__law_order⟩
  have B__law_order : Binds K fd__law_order ["_law_pot_here", "_law_size"] [] := F__law_order.binds df__law_order fun _ _ _ _ _ _ us hl => match us, hl with | [_, _], _ => rfl
  obtain ⟨f__law_passed, fd__law_passed, n__law_passed, F__law_passed, df__law_passed, kp__law_passed⟩ := d__law_passed
  have D__law_passed : C8.Def K mg "_law_passed" s_law_passed f__law_passed fd__law_passed := ⟨F__law_passed, PySem.W.mg_of X G n__law_passed, kp__law_passed⟩
  have B__law_passed : Binds K fd__law_passed ["_law_pot_here", "_law_order_here"] [] := F__law_passed.binds df__law_passed fun _ _ _ _ _ _ us hl => match us, hl with | [_, _], _ => rfl
  obtain ⟨f__law_raised, fd__law_raised, n__law_raised, F__law_raised, df__law_raised, kp__law_raised⟩ := d__law_raised
  have D__law_raised : C8.Def K mg "_law_raised" s_law_raised f__law_raised fd__law_raised := ⟨F__law_raised, PySem.W.mg_of X G n__law_raised, kp__law_raised⟩
  have B__law_raised : Binds K fd__law_raised ["_law_order_here", "_law_place", "_law_thing"] [] := F__law_raised.binds df__law_raised fun _ _ _ _ _ _ us hl => match us, hl with | [_, _, _], _ => rfl
  obtain ⟨f__law_four, fd__law_four, n__law_four, F__law_four, df__law_four, kp__law_four⟩ := d__law_four
  have D__law_four : C8.Def K mg "_law_four" s_law_four f__law_four fd__law_four := ⟨F__law_four, PySem.W.mg_of X G n__law_four, kp__law_four⟩
  have B__law_four : Binds K fd__law_four [] [] := F__law_four.binds df__law_four fun _ _ _ _ _ _ us hl => match us, hl with | [], _ => rfl
  obtain ⟨f__law_drawn, fd__law_drawn, n__law_drawn, F__law_drawn, df__law_drawn, kp__law_drawn⟩ := d__law_drawn
  have D__law_drawn : C8.Def K mg "_law_drawn" s_law_drawn f__law_drawn fd__law_drawn := ⟨F__law_drawn, PySem.W.mg_of X G n__law_drawn, kp__law_drawn⟩
  have B__law_drawn : Binds K fd__law_drawn ["_law_pot_here", "_law_most"] [] := F__law_drawn.binds df__law_drawn fun _ _ _ _ _ _ us hl => match us, hl with | [_, _], _ => rfl
  obtain ⟨f__law_counted, fd__law_counted, n__law_counted, F__law_counted, df__law_counted, kp__law_counted⟩ := d__law_counted
  have D__law_counted : C8.Def K mg "_law_counted" s_law_counted f__law_counted fd__law_counted := ⟨F__law_counted, PySem.W.mg_of X G n__law_counted, kp__law_counted⟩
  have B__law_counted : Binds K fd__law_counted ["_law_order_here", "_law_m", "_law_k"] [] := F__law_counted.binds df__law_counted fun _ _ _ _ _ _ us hl => match us, hl with | [_, _, _], _ => rfl
  obtain ⟨f__law_is_below, fd__law_is_below, n__law_is_below, F__law_is_below, df__law_is_below, kp__law_is_below⟩ := d__law_is_below
  have D__law_is_below : C8.Def K mg "_law_is_below" s_law_is_below f__law_is_below fd__law_is_below := ⟨F__law_is_below, PySem.W.mg_of X G n__law_is_below, kp__law_is_below⟩
  have B__law_is_below : Binds K fd__law_is_below ["_law_order_here", "_law_other"] [] := F__law_is_below.binds df__law_is_below fun _ _ _ _ _ _ us hl => match us, hl with | [_, _], _ => rfl
  obtain ⟨f__law_is_on, fd__law_is_on, n__law_is_on, F__law_is_on, df__law_is_on, kp__law_is_on⟩ := d__law_is_on
  have D__law_is_on : C8.Def K mg "_law_is_on" s_law_is_on f__law_is_on fd__law_is_on := ⟨F__law_is_on, PySem.W.mg_of X G n__law_is_on, kp__law_is_on⟩
  have B__law_is_on : Binds K fd__law_is_on ["_law_order_here", "_law_laying"] [] := F__law_is_on.binds df__law_is_on fun _ _ _ _ _ _ us hl => match us, hl with | [_, _], _ => rfl
  obtain ⟨f__law_all, fd__law_all, n__law_all, F__law_all, df__law_all, kp__law_all⟩ := d__law_all
  have D__law_all : C8.Def K mg "_law_all" s_law_all f__law_all fd__law_all := ⟨F__law_all, PySem.W.mg_of X G n__law_all, kp__law_all⟩
  have B__law_all : Binds K fd__law_all ["_law_size"] [] := F__law_all.binds df__law_all fun _ _ _ _ _ _ us hl => match us, hl with | [_], _ => rfl
  obtain ⟨f__law_one_right, fd__law_one_right, n__law_one_right, F__law_one_right, df__law_one_right, kp__law_one_right⟩ := d__law_one_right
  have D__law_one_right : C8.Def K mg "_law_one_right" s_law_one_right f__law_one_right fd__law_one_right := ⟨F__law_one_right, PySem.W.mg_of X G n__law_one_right, kp__law_one_right⟩
  have B__law_one_right : Binds K fd__law_one_right ["_law_pot_here", "_law_order_here"] [] := F__law_one_right.binds df__law_one_right fun _ _ _ _ _ _ us hl => match us, hl with | [_, _], _ => rfl
  obtain ⟨f__law_six_right, fd__law_six_right, n__law_six_right, F__law_six_right, df__law_six_right, kp__law_six_right⟩ := d__law_six_right
  have D__law_six_right : C8.Def K mg "_law_six_right" s_law_six_right f__law_six_right fd__law_six_right := ⟨F__law_six_right, PySem.W.mg_of X G n__law_six_right, kp__law_six_right⟩
  have B__law_six_right : Binds K fd__law_six_right ["_law_pot_here"] [] := F__law_six_right.binds df__law_six_right fun _ _ _ _ _ _ us hl => match us, hl with | [_], _ => rfl
  obtain ⟨f__law_right, fd__law_right, n__law_right, F__law_right, df__law_right, kp__law_right⟩ := d__law_right
  have D__law_right : C8.Def K mg "_law_right" s_law_right f__law_right fd__law_right := ⟨F__law_right, PySem.W.mg_of X G n__law_right, kp__law_right⟩
  have B__law_right : Binds K fd__law_right ["_law_pot_here"] [] := F__law_right.binds df__law_right fun _ _ _ _ _ _ us hl => match us, hl with | [_], _ => rfl
  obtain ⟨f_law, fd_law, n_law, F_law, df_law, kp_law⟩ := d_law
  have D_law : C8.Def K mg "law" slaw f_law fd_law := ⟨F_law, PySem.W.mg_of X G n_law, kp_law⟩
  have B_law : Binds K fd_law ["_law_script"] [] := F_law.binds df_law fun _ _ _ _ _ _ us hl => match us, hl with | [_], _ => rfl
  have hS := D_steps_down.mgf
  have hok := @one_ok
  have e := hfa.symm.trans D_law.mgf
  injection e with e
  injection e with e
  subst e
  refine ⟨fd_law, fun s v => ?_, fun base _ _ => ?_⟩
  · obtain ⟨oc, od, dV, kV, dc, pm, an, cd, ct, sl, rfl, _⟩ := F_law.ex
    cases (show dV = .none from df_law)
    exact .of_eq rfl
  have c_is_integer := cal_is_integer (P := l.prog) (w := w) (base := base) D_is_integer B_is_integer T
  have c_is_list := cal_is_list (P := l.prog) (w := w) (base := base) D_is_list B_is_list T
  have c_is_order := cal_is_order (P := l.prog) (w := w) (base := base) D_is_order B_is_order T g_MOST_THINGS_basics c_is_list c_is_integer
  have c_want_at_most := cal_want_at_most (P := l.prog) (w := w) (base := base) D_want_at_most B_want_at_most T
  have c_want_order := cal_want_order (P := l.prog) (w := w) (base := base) D_want_order B_want_order T c_is_order
  have c_want_alike := cal_want_alike (P := l.prog) (w := w) (base := base) D_want_alike B_want_alike T
  have c_done := cal_done (P := l.prog) (w := w) (base := base) D_done B_done T
  have c_has_between := cal_has_between (P := l.prog) (w := w) (base := base) D_has_between B_has_between T
  have c_is_step_down := cal_is_step_down (P := l.prog) (w := w) (base := base) D_is_step_down B_is_step_down T c_has_between
  have c_exchanges_of := cal_exchanges_of (P := l.prog) (w := w) (base := base) D_exchanges_of B_exchanges_of T
  have c_steps_down := cal_steps_down (P := l.prog) (w := w) (base := base) D_steps_down B_steps_down T c_exchanges_of c_is_step_down
  have c_is_lower := cal_is_lower (P := l.prog) (w := w) (base := base) D_is_lower B_is_lower T
  have c_want_two := cal_want_two (P := l.prog) (w := w) (base := base) D_want_two B_want_two T c_want_order c_want_alike
  have c_is_below := cal_is_below (P := l.prog) (w := w) (base := base) D_is_below B_is_below T c_want_two c_is_lower
  have c_is_stretch := cal_is_stretch (P := l.prog) (w := w) (base := base) D_is_stretch B_is_stretch T c_is_integer
  have c_is_board := cal_is_board (P := l.prog) (w := w) (base := base) D_is_board B_is_board T g_MOST_PLACES c_is_list c_is_stretch
  have c_want_board := cal_want_board (P := l.prog) (w := w) (base := base) D_want_board B_want_board T c_is_board
  have c_board_in := cal_board_in (P := l.prog) (w := w) (base := base) D_board_in B_board_in T
  have c_board_of := cal_board_of (P := l.prog) (w := w) (base := base) D_board_of B_board_of T c_want_order c_board_in
  have c_lays := cal_lays (P := l.prog) (w := w) (base := base) D_lays B_lays T
  have c_is_laying := cal_is_laying (P := l.prog) (w := w) (base := base) D_is_laying B_is_laying T c_want_order c_want_board c_lays
  have c_told_order := cal_told_order (P := l.prog) (w := w) (base := base) D_told_order B_told_order T c_is_order
  have c_fits := cal_fits (P := l.prog) (w := w) (base := base) D_fits B_fits T
  have c_standings_in := cal_standings_in (P := l.prog) (w := w) (base := base) D_standings_in B_standings_in T c_fits
  have c_first_in := cal_first_in (P := l.prog) (w := w) (base := base) D_first_in B_first_in T c_standings_in
  have c_way_in := cal_way_in (P := l.prog) (w := w) (base := base) D_way_in B_way_in T c_first_in
  have c_is_free := cal_is_free (P := l.prog) (w := w) (base := base) D_is_free B_is_free T g_FOUR r_FOUR c_way_in c_told_order
  have c_laid_at := cal_laid_at (P := l.prog) (w := w) (base := base) D_laid_at B_laid_at T
  have c_paper_of := cal_paper_of (P := l.prog) (w := w) (base := base) D_paper_of B_paper_of T g_FOUR r_FOUR g_BESIDE k_BESIDE hB c_way_in c_laid_at
  have c_beyond := cal_beyond (P := l.prog) (w := w) (base := base) D_beyond B_beyond T c_paper_of c_told_order
  have c_is_beyond := cal_is_beyond (P := l.prog) (w := w) (base := base) D_is_beyond B_is_beyond T c_is_below c_is_laying c_board_of c_is_order c_told_order
  have k_is_beyond : CalK l.prog w K mg base 6 "is_beyond" (spR K R_is_beyond) ["value", "order"] (fun zs => zs.reverse) := by
    have F := fn_is_beyond (P := l.prog) (w := w) (base := base) D_is_beyond T c_is_below c_is_laying c_board_of c_is_order c_told_order
    obtain ⟨oc, od, dV, kV, dc, pm, an, cd, ct, sl, rfl, _⟩ := F_is_beyond.ex
    cases (show dV = .none from df_is_beyond)
    refine ⟨_, _, _, fun _ ws => ws.reverse, F, D_is_beyond.mgf, kp_is_beyond, fun s us ws _ l1 l2 => ?_, fun _ h => vals_rev h⟩
    match us, ws, l1, l2 with
    | [], [_, _], _, _ => exact .of_eq rfl
  have c_bit_of := cal_bit_of (P := l.prog) (w := w) (base := base) D_bit_of B_bit_of T
  have c_free_in := cal_free_in (P := l.prog) (w := w) (base := base) D_free_in B_free_in T c_bit_of
  have c_size_of := cal_size_of (P := l.prog) (w := w) (base := base) D_size_of B_size_of T
  have c_lots_of := cal_lots_of (P := l.prog) (w := w) (base := base) D_lots_of B_lots_of T c_size_of
  have c_ways_left := cal_ways_left (P := l.prog) (w := w) (base := base) D_ways_left B_ways_left T c_free_in c_bit_of c_lots_of
  have c_all_things := cal_all_things (P := l.prog) (w := w) (base := base) D_all_things B_all_things T
  have c_how_many := cal_how_many (P := l.prog) (w := w) (base := base) D_how_many B_how_many T c_ways_left c_all_things c_want_board
  have c_want_few := cal_want_few (P := l.prog) (w := w) (base := base) D_want_few B_want_few T g_MOST_THINGS_lists c_want_at_most
  have c_next_level := cal_next_level (P := l.prog) (w := w) (base := base) D_next_level B_next_level T hS c_steps_down c_done
  have c_levels_from := cal_levels_from (P := l.prog) (w := w) (base := base) D_levels_from B_levels_from T c_next_level
  have c_below_of := cal_below_of (P := l.prog) (w := w) (base := base) D_below_of B_below_of T hS c_levels_from
  have c_all_below := cal_all_below (P := l.prog) (w := w) (base := base) D_all_below B_all_below T c_below_of c_want_few c_want_order
  have c__law_pot := cal__law_pot (P := l.prog) (w := w) (base := base) D__law_pot B__law_pot T
  have c__law_draw := cal__law_draw (P := l.prog) (w := w) (base := base) D__law_draw B__law_draw T
  have c__law_pick := cal__law_pick (P := l.prog) (w := w) (base := base) D__law_pick B__law_pick T c__law_draw
  have c__law_order := cal__law_order (P := l.prog) (w := w) (base := base) D__law_order B__law_order T c__law_draw
  have c__law_passed := cal__law_passed (P := l.prog) (w := w) (base := base) D__law_passed B__law_passed T c__law_draw
  have c__law_raised := cal__law_raised (P := l.prog) (w := w) (base := base) D__law_raised B__law_raised T
  have c__law_four := cal__law_four (P := l.prog) (w := w) (base := base) D__law_four B__law_four T
  have c__law_drawn := cal__law_drawn (P := l.prog) (w := w) (base := base) D__law_drawn B__law_drawn T c__law_draw c__law_order c__law_pick c__law_four c__law_raised
  have c__law_counted := cal__law_counted (P := l.prog) (w := w) (base := base) D__law_counted B__law_counted T
  have c__law_is_below := cal__law_is_below (P := l.prog) (w := w) (base := base) D__law_is_below B__law_is_below T c__law_counted
  have c__law_is_on := cal__law_is_on (P := l.prog) (w := w) (base := base) D__law_is_on B__law_is_on T
  have c__law_all := cal__law_all (P := l.prog) (w := w) (base := base) D__law_all B__law_all T c__law_raised
  have c__law_one_right := cal__law_one_right (P := l.prog) (w := w) (base := base) D__law_one_right B__law_one_right T c_is_beyond k_is_beyond c__law_raised c_all_below c_how_many c_board_of c_is_free c_beyond c__law_is_below c__law_is_on c__law_passed c__law_all
  have c__law_six_right := cal__law_six_right (P := l.prog) (w := w) (base := base) D__law_six_right B__law_six_right T c_how_many c_board_of c_is_beyond c__law_is_below c__law_is_on c__law_pick c__law_order
  have c__law_right := cal__law_right (P := l.prog) (w := w) (base := base) D__law_right B__law_right T hok c__law_six_right c__law_one_right c__law_pick c__law_order c__law_drawn
  exact fn_law D_law T c__law_right c__law_pot
end Kd

open PySem PySem.W PyProof.Rows
set_option maxHeartbeats 0 in
theorem PySem.Challenge.cw_lowerboards_k47_whole_layings_beyond_by_holds : PySem.Challenge.rw_lowerboards_k47_whole_layings_beyond_by.Holds := by
  w_on; o_law; k_head; (case hw => w_witness2)
  k_fill
  refine L2.walk_of (l := PySem.Challenge.rw_lowerboards_k47_whole_layings_beyond_by) (n := 63) (k := 10) (x := "_law_script") (CX := fun _ => C8.CX0) (sp := fun w => Kd.sp_law _) rfl (by decide) rfl ⟨rfl, by decide, by decide⟩ (fun w h Y => PySem.W.kIn_of Y) ?F (fun _ _ a ns hl _ hS => ⟨a, ns, rfl, hS, fun _ => rfl⟩) (fun _ _ _ _ _ h => h)
  case F =>
    intro w mg fa h KX G hmg
    refine' Kd.law_all KX G hmg ?b ?m1 ?m2 ?m3 ?hF ?hB ?d_is_integer ?d_is_list ?d_is_order ?d_want_at_most ?d_want_order ?d_want_alike ?d_done ?d_has_between ?d_is_step_down ?d_exchanges_of ?d_steps_down ?d_is_lower ?d_want_two ?d_is_below ?d_is_stretch ?d_is_board ?d_want_board ?d_board_in ?d_board_of ?d_lays ?d_is_laying ?d_told_order ?d_fits ?d_standings_in ?d_first_in ?d_way_in ?d_is_free ?d_laid_at ?d_paper_of ?d_beyond ?d_is_beyond ?d_bit_of ?d_free_in ?d_size_of ?d_lots_of ?d_ways_left ?d_all_things ?d_how_many ?d_want_few ?d_next_level ?d_levels_from ?d_below_of ?d_all_below ?d__law_pot ?d__law_draw ?d__law_pick ?d__law_order ?d__law_passed ?d__law_raised ?d__law_four ?d__law_drawn ?d__law_counted ?d__law_is_below ?d__law_is_on ?d__law_all ?d__law_one_right ?d__law_six_right ?d__law_right ?d_law
    case b =>
      refine' ⟨?b_len, ?b_all, ?b_any, ?b_sum, ?b_min, ?b_max, ?b_sorted, ?b_abs, ?b_divmod, ?b_isinstance, ?b_int, ?b_bool, ?b_list, ?b_tuple, ?b_zip, ?b_enumerate, ?b_range⟩
      (case b_len => k_is)
      (case b_all => k_is)
      (case b_any => k_is)
      (case b_sum => k_is)
      (case b_min => k_is)
      (case b_max => k_is)
      (case b_sorted => k_is)
      (case b_abs => k_is)
      (case b_divmod => k_is)
      (case b_isinstance => k_is)
      (case b_int => k_is)
      (case b_bool => k_is)
      (case b_list => k_is)
      (case b_tuple => k_is)
      (case b_zip => k_is)
      (case b_enumerate => k_is)
      (case b_range => k_is)
    (case m1 => k_is)
    (case m2 => k_is)
    (case m3 => k_is)
    case hF =>
      refine' Kd.hf_mk ?za ?zl ?l0 ?l1 ?l2 ?l3
      (case za => k_is); (case zl => k_is)
      (case l0 => refine' Kd.kt4 ?zq; (case zq => k_is))
      (case l1 => refine' Kd.kt5 ?zq; (case zq => k_is))
      (case l2 => refine' Kd.kt5 ?zq; (case zq => k_is))
      (case l3 => refine' Kd.kt6 ?zq; (case zq => k_is))
    case hB =>
      refine' Kd.hb_mk ?za ?zl ?a0 ?a1 ?a2 ?a3 ?b0 ?b1 ?b2 ?b3
      (case za => k_is); (case zl => k_is)
      (case a0 => refine' Kd.kt4 ?zq; (case zq => k_is))
      (case a1 => refine' Kd.kt5 ?zq; (case zq => k_is))
      (case a2 => refine' Kd.kt5 ?zq; (case zq => k_is))
      (case a3 => refine' Kd.kt6 ?zq; (case zq => k_is))
      (case b0 => refine' Kd.kt4 ?zq; (case zq => k_is))
      (case b1 => refine' Kd.kt5 ?zq; (case zq => k_is))
      (case b2 => refine' Kd.kt5 ?zq; (case zq => k_is))
      (case b3 => refine' Kd.kt6 ?zq; (case zq => k_is))
    (case d_is_integer => refine' Kd.dd_mk ?za ?zl ?zc ?zk; (case za => k_is); (case zl => k_is); (case zc => k_is); (case zk => k_is))
    (case d_is_list => refine' Kd.dd_mk ?za ?zl ?zc ?zk; (case za => k_is); (case zl => k_is); (case zc => k_is); (case zk => k_is))
    (case d_is_order => refine' Kd.dd_mk ?za ?zl ?zc ?zk; (case za => k_is); (case zl => k_is); (case zc => k_is); (case zk => k_is))
    (case d_want_at_most => refine' Kd.dd_mk ?za ?zl ?zc ?zk; (case za => k_is); (case zl => k_is); (case zc => k_is); (case zk => k_is))
    (case d_want_order => refine' Kd.dd_mk ?za ?zl ?zc ?zk; (case za => k_is); (case zl => k_is); (case zc => k_is); (case zk => k_is))
    (case d_want_alike => refine' Kd.dd_mk ?za ?zl ?zc ?zk; (case za => k_is); (case zl => k_is); (case zc => k_is); (case zk => k_is))
    (case d_done => refine' Kd.dd_mk ?za ?zl ?zc ?zk; (case za => k_is); (case zl => k_is); (case zc => k_is); (case zk => k_is))
    (case d_has_between => refine' Kd.dd_mk ?za ?zl ?zc ?zk; (case za => k_is); (case zl => k_is); (case zc => k_is); (case zk => k_is))
    (case d_is_step_down => refine' Kd.dd_mk ?za ?zl ?zc ?zk; (case za => k_is); (case zl => k_is); (case zc => k_is); (case zk => k_is))
    (case d_exchanges_of => refine' Kd.dd_mk ?za ?zl ?zc ?zk; (case za => k_is); (case zl => k_is); (case zc => k_is); (case zk => k_is))
    (case d_steps_down => refine' Kd.dd_mk ?za ?zl ?zc ?zk; (case za => k_is); (case zl => k_is); (case zc => k_is); (case zk => k_is))
    (case d_is_lower => refine' Kd.dd_mk ?za ?zl ?zc ?zk; (case za => k_is); (case zl => k_is); (case zc => k_is); (case zk => k_is))
    (case d_want_two => refine' Kd.dd_mk ?za ?zl ?zc ?zk; (case za => k_is); (case zl => k_is); (case zc => k_is); (case zk => k_is))
    (case d_is_below => refine' Kd.dd_mk ?za ?zl ?zc ?zk; (case za => k_is); (case zl => k_is); (case zc => k_is); (case zk => k_is))
    (case d_is_stretch => refine' Kd.dd_mk ?za ?zl ?zc ?zk; (case za => k_is); (case zl => k_is); (case zc => k_is); (case zk => k_is))
    (case d_is_board => refine' Kd.dd_mk ?za ?zl ?zc ?zk; (case za => k_is); (case zl => k_is); (case zc => k_is); (case zk => k_is))
    (case d_want_board => refine' Kd.dd_mk ?za ?zl ?zc ?zk; (case za => k_is); (case zl => k_is); (case zc => k_is); (case zk => k_is))
    (case d_board_in => refine' Kd.dd_mk ?za ?zl ?zc ?zk; (case za => k_is); (case zl => k_is); (case zc => k_is); (case zk => k_is))
    (case d_board_of => refine' Kd.dd_mk ?za ?zl ?zc ?zk; (case za => k_is); (case zl => k_is); (case zc => k_is); (case zk => k_is))
    (case d_lays => refine' Kd.dd_mk ?za ?zl ?zc ?zk; (case za => k_is); (case zl => k_is); (case zc => k_is); (case zk => k_is))
    (case d_is_laying => refine' Kd.dd_mk ?za ?zl ?zc ?zk; (case za => k_is); (case zl => k_is); (case zc => k_is); (case zk => k_is))
    (case d_told_order => refine' Kd.dd_mk ?za ?zl ?zc ?zk; (case za => k_is); (case zl => k_is); (case zc => k_is); (case zk => k_is))
    (case d_fits => refine' Kd.dd_mk ?za ?zl ?zc ?zk; (case za => k_is); (case zl => k_is); (case zc => k_is); (case zk => k_is))
    (case d_standings_in => refine' Kd.dd_mk ?za ?zl ?zc ?zk; (case za => k_is); (case zl => k_is); (case zc => k_is); (case zk => k_is))
    (case d_first_in => refine' Kd.dd_mk ?za ?zl ?zc ?zk; (case za => k_is); (case zl => k_is); (case zc => k_is); (case zk => k_is))
    (case d_way_in => refine' Kd.dd_mk ?za ?zl ?zc ?zk; (case za => k_is); (case zl => k_is); (case zc => k_is); (case zk => k_is))
    (case d_is_free => refine' Kd.dd_mk ?za ?zl ?zc ?zk; (case za => k_is); (case zl => k_is); (case zc => k_is); (case zk => k_is))
    (case d_laid_at => refine' Kd.dd_mk ?za ?zl ?zc ?zk; (case za => k_is); (case zl => k_is); (case zc => k_is); (case zk => k_is))
    (case d_paper_of => refine' Kd.dd_mk ?za ?zl ?zc ?zk; (case za => k_is); (case zl => k_is); (case zc => k_is); (case zk => k_is))
    (case d_beyond => refine' Kd.dd_mk ?za ?zl ?zc ?zk; (case za => k_is); (case zl => k_is); (case zc => k_is); (case zk => k_is))
    (case d_is_beyond => refine' Kd.dd_mk ?za ?zl ?zc ?zk; (case za => k_is); (case zl => k_is); (case zc => k_is); (case zk => k_is))
    (case d_bit_of => refine' Kd.dd_mk ?za ?zl ?zc ?zk; (case za => k_is); (case zl => k_is); (case zc => k_is); (case zk => k_is))
    (case d_free_in => refine' Kd.dd_mk ?za ?zl ?zc ?zk; (case za => k_is); (case zl => k_is); (case zc => k_is); (case zk => k_is))
    (case d_size_of => refine' Kd.dd_mk ?za ?zl ?zc ?zk; (case za => k_is); (case zl => k_is); (case zc => k_is); (case zk => k_is))
    (case d_lots_of => refine' Kd.dd_mk ?za ?zl ?zc ?zk; (case za => k_is); (case zl => k_is); (case zc => k_is); (case zk => k_is))
    (case d_ways_left => refine' Kd.dd_mk ?za ?zl ?zc ?zk; (case za => k_is); (case zl => k_is); (case zc => k_is); (case zk => k_is))
    (case d_all_things => refine' Kd.dd_mk ?za ?zl ?zc ?zk; (case za => k_is); (case zl => k_is); (case zc => k_is); (case zk => k_is))
    (case d_how_many => refine' Kd.dd_mk ?za ?zl ?zc ?zk; (case za => k_is); (case zl => k_is); (case zc => k_is); (case zk => k_is))
    (case d_want_few => refine' Kd.dd_mk ?za ?zl ?zc ?zk; (case za => k_is); (case zl => k_is); (case zc => k_is); (case zk => k_is))
    (case d_next_level => refine' Kd.dd_mk ?za ?zl ?zc ?zk; (case za => k_is); (case zl => k_is); (case zc => k_is); (case zk => k_is))
    (case d_levels_from => refine' Kd.dd_mk ?za ?zl ?zc ?zk; (case za => k_is); (case zl => k_is); (case zc => k_is); (case zk => k_is))
    (case d_below_of => refine' Kd.dd_mk ?za ?zl ?zc ?zk; (case za => k_is); (case zl => k_is); (case zc => k_is); (case zk => k_is))
    (case d_all_below => refine' Kd.dd_mk ?za ?zl ?zc ?zk; (case za => k_is); (case zl => k_is); (case zc => k_is); (case zk => k_is))
    (case d__law_pot => refine' Kd.dd_mk ?za ?zl ?zc ?zk; (case za => k_is); (case zl => k_is); (case zc => k_is); (case zk => k_is))
    (case d__law_draw => refine' Kd.dd_mk ?za ?zl ?zc ?zk; (case za => k_is); (case zl => k_is); (case zc => k_is); (case zk => k_is))
    (case d__law_pick => refine' Kd.dd_mk ?za ?zl ?zc ?zk; (case za => k_is); (case zl => k_is); (case zc => k_is); (case zk => k_is))
    (case d__law_order => refine' Kd.dd_mk ?za ?zl ?zc ?zk; (case za => k_is); (case zl => k_is); (case zc => k_is); (case zk => k_is))
    (case d__law_passed => refine' Kd.dd_mk ?za ?zl ?zc ?zk; (case za => k_is); (case zl => k_is); (case zc => k_is); (case zk => k_is))
    (case d__law_raised => refine' Kd.dd_mk ?za ?zl ?zc ?zk; (case za => k_is); (case zl => k_is); (case zc => k_is); (case zk => k_is))
    (case d__law_four => refine' Kd.dd_mk ?za ?zl ?zc ?zk; (case za => k_is); (case zl => k_is); (case zc => k_is); (case zk => k_is))
    (case d__law_drawn => refine' Kd.dd_mk ?za ?zl ?zc ?zk; (case za => k_is); (case zl => k_is); (case zc => k_is); (case zk => k_is))
    (case d__law_counted => refine' Kd.dd_mk ?za ?zl ?zc ?zk; (case za => k_is); (case zl => k_is); (case zc => k_is); (case zk => k_is))
    (case d__law_is_below => refine' Kd.dd_mk ?za ?zl ?zc ?zk; (case za => k_is); (case zl => k_is); (case zc => k_is); (case zk => k_is))
    (case d__law_is_on => refine' Kd.dd_mk ?za ?zl ?zc ?zk; (case za => k_is); (case zl => k_is); (case zc => k_is); (case zk => k_is))
    (case d__law_all => refine' Kd.dd_mk ?za ?zl ?zc ?zk; (case za => k_is); (case zl => k_is); (case zc => k_is); (case zk => k_is))
    (case d__law_one_right => refine' Kd.dd_mk ?za ?zl ?zc ?zk; (case za => k_is); (case zl => k_is); (case zc => k_is); (case zk => k_is))
    (case d__law_six_right => refine' Kd.dd_mk ?za ?zl ?zc ?zk; (case za => k_is); (case zl => k_is); (case zc => k_is); (case zk => k_is))
    (case d__law_right => refine' Kd.dd_mk ?za ?zl ?zc ?zk; (case za => k_is); (case zl => k_is); (case zc => k_is); (case zk => k_is))
    (case d_law => refine' Kd.dd_mk ?za ?zl ?zc ?zk; (case za => k_is); (case zl => k_is); (case zc => k_is); (case zk => k_is))
