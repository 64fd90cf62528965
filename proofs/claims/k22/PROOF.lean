import PyProof.Rows.All
import Wide.All
import OpenK.AllK
import Wide.FinOn
import HandS.ForMost
import HandS.ForExc
import HandS.SortInts
import HandS.Wide
import HandS.IsInst
import HandS.Flow
import HandS.Style
import PySem.Challenge.RW_firenegatives_k22_whole_lines_turned
set_option Elab.async false
set_option linter.all false
set_option maxRecDepth 100000
set_option maxHeartbeats 4000000
/-! A logic without heaps over the hand layer: data D, contexts of slots, two regions (frozen, all). -/
namespace Z
open PySem L2

inductive D where
  | non | bl (b : Bool) | int (i : Int) | str (x : Str)
  | lst (ds : List D) | tup (ds : List D)
  | scr (ns : List Int) | pool | any | val (v : V)
  | ins (C : Addr) (ns : List Str) (ds : List D)

/-- F: what never changes again; H: all; M: the pools -/
structure Wd where
  F : Hp
  H : Hp
  M : Addr → Bool
structure Wd.Ok (S : Wd) : Prop where
  sub : ∀ a o, S.F a = some o → S.H a = some o
  pool : ∀ a, S.M a = true → S.F a = none ∧ ∃ x y, S.H a = some (.lst [.int x, .int y]) ∧ 0 ≤ y ∧ y < 4294967296
structure Le (S T : Wd) : Prop where
  fz : ∀ a o, S.F a = some o → T.F a = some o
  mu : ∀ a, S.M a = true → T.M a = true
structure Gr (S T : Wd) : Prop where
  oS : S.Ok
  ok : T.Ok
  fz : ∀ a o, S.F a = some o → T.F a = some o
  hp : ∀ a o, S.H a = some o → S.M a = false → T.H a = some o
  fr : ∀ a o, S.H a = some o → S.F a = none → T.F a = none
  mu : ∀ a o, S.H a = some o → T.M a = S.M a
theorem Gr.refl {S : Wd} (h : S.Ok) : Gr S S := ⟨h, h, fun _ _ e => e, fun _ _ e _ => e, fun _ _ _ e => e, fun _ _ _ => rfl⟩
theorem Gr.le {S T : Wd} (g : Gr S T) : Le S T := ⟨g.fz, fun a e => by
  obtain ⟨_, x, y, h, _⟩ := g.oS.pool a e
  rw [g.mu a _ h, e]⟩
theorem Gr.there {S T : Wd} (g : Gr S T) {a : Addr} {o : HO} (h : S.H a = some o) : ∃ u, T.H a = some u := by
  cases e : S.M a with
  | false => exact ⟨o, g.hp a o h e⟩
  | true =>
    obtain ⟨_, x, y, q, _⟩ := g.ok.pool a (g.le.mu a e)
    exact ⟨_, q⟩
theorem Gr.trans {S T U : Wd} (a : Gr S T) (b : Gr T U) : Gr S U where
  oS := a.oS
  ok := b.ok
  fz := fun x o h => b.fz x o (a.fz x o h)
  hp := fun x o h m => b.hp x o (a.hp x o h m) ((a.mu x o h).trans m)
  fr := fun x o h n => by
    obtain ⟨u, q⟩ := a.there h
    exact b.fr x u q (a.fr x o h n)
  mu := fun x o h => by
    obtain ⟨u, q⟩ := a.there h
    rw [b.mu x u q, a.mu x o h]
theorem Gr.new {S T : Wd} (g : Gr S T) {p : Addr} (h : T.H p = none) : S.H p = none := by
  cases e : S.H p with
  | none => rfl
  | some o =>
    obtain ⟨u, q⟩ := g.there e
    rw [q] at h
    cases h
theorem Wd.Ok.fnone {S : Wd} (h : S.Ok) {p : Addr} (e : S.H p = none) : S.F p = none := by
  cases q : S.F p with
  | none => rfl
  | some o => rw [h.sub p o q] at e; cases e
theorem Wd.Ok.mnone {S : Wd} (h : S.Ok) {p : Addr} (e : S.H p = none) : S.M p = false := by
  cases q : S.M p with
  | false => rfl
  | true =>
    obtain ⟨_, x, y, z, _⟩ := h.pool p q
    rw [z] at e; cases e
theorem Wd.Ok.mfz {S : Wd} (h : S.Ok) {p : Addr} {o : HO} (e : S.F p = some o) : S.M p = false := by
  cases q : S.M p with
  | false => rfl
  | true =>
    obtain ⟨z, _⟩ := h.pool p q
    rw [z] at e; cases e

mutual
def Rp (K : PySem.W.Frag) (S : Wd) : D → V → Prop
  | .non, v => v = .non
  | .bl b, v => v = .bl b
  | .int i, v => v = .int i
  | .str x, v => v = .str x
  | .lst ds, v => ∃ a xs, v = .ref a ∧ S.F a = some (.lst xs) ∧ RpL K S ds xs
  | .tup ds, v => ∃ a xs, v = .ref a ∧ SqT K S.F a xs ∧ RpL K S ds xs
  | .scr ns, v => ∃ a, v = .ref a ∧ SqL K S.F a (ns.map V.int)
  | .pool, v => ∃ a, v = .ref a ∧ S.M a = true
  | .any, _ => True
  | .val u, v => v = u
  | .ins C ns ds, v => ∃ a dx fs, v = .ref a ∧ S.F a = some (.ins C dx fs) ∧ fs.map (·.1) = ns ∧ RpL K S ds (fs.map (·.2))
def RpL (K : PySem.W.Frag) (S : Wd) : List D → List V → Prop
  | [], xs => xs = []
  | d :: ds, xs => ∃ y ys, xs = y :: ys ∧ Rp K S d y ∧ RpL K S ds ys
end

theorem rd_mono {F G : Hp} {a : Addr} {u : HO} (h : ∀ a o, F a = some o → G a = some o) (r : Rd F a u) : Rd G a u := by
  rcases r with r | ⟨o, r⟩
  · exact .inl (h _ _ r)
  · exact .inr ⟨o, h _ _ r⟩
theorem sqt_mono {K : PySem.W.Frag} {F G : Hp} {a : Addr} {xs : List V} (h : ∀ a o, F a = some o → G a = some o) (r : SqT K F a xs) : SqT K G a xs := by
  rcases r with r | r
  · exact .inl (rd_mono h r)
  · exact .inr r
theorem sql_mono {K : PySem.W.Frag} {F G : Hp} {a : Addr} {xs : List V} (h : ∀ a o, F a = some o → G a = some o) (r : SqL K F a xs) : SqL K G a xs := by
  rcases r with r | r
  · exact .inl (rd_mono h r)
  · exact .inr r
mutual
theorem Rp.mono {K : PySem.W.Frag} {S T : Wd} (l : Le S T) : ∀ {d : D} {v : V}, Rp K S d v → Rp K T d v
  | .non, v, h => by unfold Rp at h ⊢; exact h
  | .bl b, v, h => by unfold Rp at h ⊢; exact h
  | .int i, v, h => by unfold Rp at h ⊢; exact h
  | .str x, v, h => by unfold Rp at h ⊢; exact h
  | .lst ds, v, h => by
    unfold Rp at h ⊢
    obtain ⟨a, xs, e, f, r⟩ := h
    exact ⟨a, xs, e, l.fz _ _ f, RpL.mono l r⟩
  | .tup ds, v, h => by
    unfold Rp at h ⊢
    obtain ⟨a, xs, e, f, r⟩ := h
    exact ⟨a, xs, e, sqt_mono l.fz f, RpL.mono l r⟩
  | .scr ns, v, h => by
    unfold Rp at h ⊢
    obtain ⟨a, e, f⟩ := h
    exact ⟨a, e, sql_mono l.fz f⟩
  | .pool, v, h => by
    unfold Rp at h ⊢
    obtain ⟨a, e, f⟩ := h
    exact ⟨a, e, l.mu _ f⟩
  | .any, v, h => by unfold Rp at h ⊢; exact h
  | .val u, v, h => by unfold Rp at h ⊢; exact h
  | .ins C ns ds, v, h => by
    unfold Rp at h ⊢
    obtain ⟨a, dx, fs, e, f, n, r⟩ := h
    exact ⟨a, dx, fs, e, l.fz _ _ f, n, RpL.mono l r⟩
theorem RpL.mono {K : PySem.W.Frag} {S T : Wd} (l : Le S T) : ∀ {ds : List D} {vs : List V}, RpL K S ds vs → RpL K T ds vs
  | [], vs, h => by unfold RpL at h ⊢; exact h
  | d :: ds, vs, h => by
    unfold RpL at h ⊢
    obtain ⟨y, ys, e, r, t⟩ := h
    exact ⟨y, ys, e, Rp.mono l r, RpL.mono l t⟩
end
theorem Rp.int {K : PySem.W.Frag} {S : Wd} {i : Int} {v : V} (h : Rp K S (.int i) v) : v = .int i := by unfold Rp at h; exact h
theorem RpL.nil {K : PySem.W.Frag} {S : Wd} : RpL K S [] [] := by unfold RpL; rfl
theorem RpL.cons {K : PySem.W.Frag} {S : Wd} {d : D} {ds : List D} {v : V} {vs : List V} (h : Rp K S d v) (t : RpL K S ds vs) : RpL K S (d :: ds) (v :: vs) := by unfold RpL; exact ⟨v, vs, rfl, h, t⟩
theorem RpL.nil_inv {K : PySem.W.Frag} {S : Wd} {vs : List V} (h : RpL K S [] vs) : vs = [] := by unfold RpL at h; exact h
theorem RpL.cons_inv {K : PySem.W.Frag} {S : Wd} {d : D} {ds : List D} {vs : List V} (h : RpL K S (d :: ds) vs) : ∃ y ys, vs = y :: ys ∧ Rp K S d y ∧ RpL K S ds ys := by unfold RpL at h; exact h
theorem RpL.length {K : PySem.W.Frag} {S : Wd} : ∀ {ds : List D} {vs : List V}, RpL K S ds vs → vs.length = ds.length
  | [], _, h => by
    rw [h.nil_inv]
    rfl
  | d :: ds, _, h => by
    obtain ⟨y, ys, rfl, _, t⟩ := h.cons_inv
    rw [List.length_cons, List.length_cons, t.length]
theorem RpL.get {K : PySem.W.Frag} {S : Wd} : ∀ {ds : List D} {vs : List V} {i : Nat} {d : D}, RpL K S ds vs → ds[i]? = some d → ∃ v, vs[i]? = some v ∧ Rp K S d v
  | [], _, _, _, _, e => by simp at e
  | d :: ds, _, 0, x, h, e => by
    obtain ⟨y, ys, rfl, r, t⟩ := h.cons_inv
    simp at e
    subst e
    exact ⟨y, rfl, r⟩
  | d :: ds, _, i + 1, x, h, e => by
    obtain ⟨y, ys, rfl, r, t⟩ := h.cons_inv
    obtain ⟨v, e1, r1⟩ := t.get (i := i) (d := x) (by simpa using e)
    exact ⟨v, by simpa using e1, r1⟩
theorem RpL.getV {K : PySem.W.Frag} {S : Wd} {ds : List D} {vs : List V} {i : Nat} {v : V} (h : RpL K S ds vs) (e : vs[i]? = some v) : ∃ d, ds[i]? = some d ∧ Rp K S d v := by
  have hl := h.length
  have hi : i < vs.length := (List.getElem?_eq_some_iff.mp e).1
  have hd : i < ds.length := by omega
  obtain ⟨u, e1, r⟩ := h.get (List.getElem?_eq_getElem hd)
  rw [e] at e1
  cases e1
  exact ⟨_, List.getElem?_eq_getElem hd, r⟩
theorem RpL.append {K : PySem.W.Frag} {S : Wd} : ∀ {ds es : List D} {vs ws : List V}, RpL K S ds vs → RpL K S es ws → RpL K S (ds ++ es) (vs ++ ws)
  | [], _, _, _, h, t => by rw [h.nil_inv]; exact t
  | d :: ds, _, _, _, h, t => by
    obtain ⟨y, ys, rfl, r, q⟩ := h.cons_inv
    exact RpL.cons r (q.append t)
theorem RpL.set {K : PySem.W.Frag} {S : Wd} {d : D} {v : V} (r : Rp K S d v) : ∀ {ds : List D} {vs : List V} (i : Nat), RpL K S ds vs → RpL K S (ds.set i d) (vs.set i v)
  | [], _, _, h => by rw [h.nil_inv]; exact RpL.nil
  | d :: ds, _, 0, h => by
    obtain ⟨y, ys, rfl, q, t⟩ := h.cons_inv
    exact RpL.cons r t
  | d :: ds, _, i + 1, h => by
    obtain ⟨y, ys, rfl, q, t⟩ := h.cons_inv
    exact RpL.cons q (RpL.set r i t)
theorem RpL.take {K : PySem.W.Frag} {S : Wd} : ∀ {ds : List D} {vs : List V} (n : Nat), RpL K S ds vs → RpL K S (ds.take n) (vs.take n)
  | _, _, 0, _ => by simpa using RpL.nil
  | [], _, n + 1, h => by rw [h.nil_inv]; exact RpL.nil
  | d :: ds, _, n + 1, h => by
    obtain ⟨y, ys, rfl, q, t⟩ := h.cons_inv
    exact RpL.cons q (t.take n)
theorem RpL.drop {K : PySem.W.Frag} {S : Wd} : ∀ {ds : List D} {vs : List V} (n : Nat), RpL K S ds vs → RpL K S (ds.drop n) (vs.drop n)
  | _, _, 0, h => by simpa using h
  | [], _, n + 1, h => by rw [h.nil_inv]; exact RpL.nil
  | d :: ds, _, n + 1, h => by
    obtain ⟨y, ys, rfl, q, t⟩ := h.cons_inv
    exact t.drop n
theorem RpL.ints {K : PySem.W.Frag} {S : Wd} : ∀ {ns : List Int} {vs : List V}, RpL K S (ns.map D.int) vs → vs = ns.map V.int
  | [], _, h => h.nil_inv
  | n :: ns, _, h => by
    obtain ⟨y, ys, rfl, q, t⟩ := RpL.cons_inv h
    rw [q.int, t.ints]
    rfl
theorem RpL.of_ints {K : PySem.W.Frag} {S : Wd} : ∀ (ns : List Int), RpL K S (ns.map D.int) (ns.map V.int)
  | [] => RpL.nil
  | n :: ns => RpL.cons (by unfold Rp; rfl) (RpL.of_ints ns)
theorem RpL.bls {K : PySem.W.Frag} {S : Wd} : ∀ {ns : List Bool} {vs : List V}, RpL K S (ns.map D.bl) vs → vs = ns.map V.bl
  | [], _, h => h.nil_inv
  | n :: ns, _, h => by
    obtain ⟨y, ys, rfl, q, t⟩ := RpL.cons_inv h
    unfold Rp at q
    rw [q, t.bls]
    rfl

/-! ### contexts -/
inductive Sl where
  | un | dat (d : D) | own (ds : List D)
abbrev Ctx := List Sl
structure EnvOk (K : PySem.W.Frag) (S0 S : Wd) (σ : L2.St) (Γ : Ctx) : Prop where
  ok : S.Ok
  len : σ.length = Γ.length
  dat : ∀ (i : Nat) d, Γ[i]? = some (.dat d) → ∃ v, σ[i]? = some (some v) ∧ Rp K S d v
  own : ∀ (i : Nat) ds, Γ[i]? = some (.own ds) → ∃ l xs, σ[i]? = some (some (.ref l)) ∧ S.H l = some (.lst xs) ∧ S.F l = none ∧ S.M l = false ∧ S0.H l = none ∧ RpL K S ds xs
  apart : ∀ (i j : Nat) ds es l, i ≠ j → Γ[i]? = some (.own ds) → Γ[j]? = some (.own es) → σ[i]? = some (some (.ref l)) → σ[j]? ≠ some (some (.ref l))
section
variable {K : PySem.W.Frag} {S0 S T : Wd} {σ : L2.St} {Γ : Ctx}
theorem EnvOk.gr (E : EnvOk K S0 S σ Γ) (g : Gr S T) : EnvOk K S0 T σ Γ := by
  refine ⟨g.ok, E.len, fun i d e => ?_, fun i ds e => ?_, E.apart⟩
  · obtain ⟨v, h, r⟩ := E.dat i d e
    exact ⟨v, h, r.mono g.le⟩
  · obtain ⟨l, xs, h, hl, hf, hm, h0, r⟩ := E.own i ds e
    exact ⟨l, xs, h, g.hp _ _ hl hm, g.fr _ _ hl hf, by rw [g.mu _ _ hl, hm], h0, r.mono g.le⟩
theorem EnvOk.setDat (E : EnvOk K S0 S σ Γ) {i : Nat} {d : D} {v : V} (r : Rp K S d v) : EnvOk K S0 S (σ.set i (some v)) (Γ.set i (.dat d)) := by
  refine ⟨E.ok, by simp [E.len], fun j e h => ?_, fun j ds h => ?_, fun a b ds es l hab h1 h2 h3 => ?_⟩
  · by_cases hj : i = j
    · subst hj
      have hi : i < Γ.length := by
        have := (List.getElem?_eq_some_iff.mp h).1
        simpa using this
      rw [List.getElem?_set_self hi] at h
      cases h
      exact ⟨v, List.getElem?_set_self (by rw [E.len]; exact hi), r⟩
    · rw [List.getElem?_set_ne hj] at h ⊢
      exact E.dat j e h
  · by_cases hj : i = j
    · subst hj
      have hi : i < Γ.length := by
        have := (List.getElem?_eq_some_iff.mp h).1
        simpa using this
      rw [List.getElem?_set_self hi] at h
      cases h
    · rw [List.getElem?_set_ne hj] at h ⊢
      exact E.own j ds h
  · have ha : i ≠ a := fun z => by
      subst z
      have hi : i < Γ.length := by
        have := (List.getElem?_eq_some_iff.mp h1).1
        simpa using this
      rw [List.getElem?_set_self hi] at h1
      cases h1
    have hb : i ≠ b := fun z => by
      subst z
      have hi : i < Γ.length := by
        have := (List.getElem?_eq_some_iff.mp h2).1
        simpa using this
      rw [List.getElem?_set_self hi] at h2
      cases h2
    rw [List.getElem?_set_ne ha] at h1 h3
    rw [List.getElem?_set_ne hb] at h2 ⊢
    exact E.apart a b ds es l hab h1 h2 h3
/-- a slot that is forgotten -/
theorem EnvOk.setUn (E : EnvOk K S0 S σ Γ) {i : Nat} {o : Option V} : EnvOk K S0 S (σ.set i o) (Γ.set i .un) := by
  have key : ∀ {j : Nat} {x : Sl}, x ≠ .un → (Γ.set i .un)[j]? = some x → i ≠ j ∧ Γ[j]? = some x := fun {j x} hx h => by
    by_cases hj : i = j
    · subst hj
      have hi : i < Γ.length := by
        have := (List.getElem?_eq_some_iff.mp h).1
        simpa using this
      rw [List.getElem?_set_self hi] at h
      exact absurd (Option.some.inj h).symm hx
    · rw [List.getElem?_set_ne hj] at h
      exact ⟨hj, h⟩
  refine ⟨E.ok, by simp [E.len], fun j e h => ?_, fun j ds h => ?_, fun a b ds es l hab h1 h2 h3 => ?_⟩
  · obtain ⟨hj, h⟩ := key (x := .dat e) (fun z => nomatch z) h
    rw [List.getElem?_set_ne hj]
    exact E.dat j e h
  · obtain ⟨hj, h⟩ := key (x := .own ds) (fun z => nomatch z) h
    rw [List.getElem?_set_ne hj]
    exact E.own j ds h
  · obtain ⟨ha, h1⟩ := key (x := .own ds) (fun z => nomatch z) h1
    obtain ⟨hb, h2⟩ := key (x := .own es) (fun z => nomatch z) h2
    rw [List.getElem?_set_ne ha] at h3
    rw [List.getElem?_set_ne hb]
    exact E.apart a b ds es l hab h1 h2 h3
/-- a new list is owned by a slot -/
theorem EnvOk.setOwn (E : EnvOk K S0 S σ Γ) {i : Nat} {ds : List D} {p : Addr} {xs : List V} (h0 : S0.H p = none) (hp : S.H p = some (.lst xs)) (hf : S.F p = none) (hm : S.M p = false) (r : RpL K S ds xs)
    (hn : ∀ j es, Γ[j]? = some (.own es) → σ[j]? = some (some (.ref p)) → j = i) : EnvOk K S0 S (σ.set i (some (.ref p))) (Γ.set i (.own ds)) := by
  have at_i : ∀ {x : Sl}, (Γ.set i (.own ds))[i]? = some x → x = .own ds ∧ i < Γ.length := fun {x} h => by
    have hi : i < Γ.length := by
      have := (List.getElem?_eq_some_iff.mp h).1
      simpa using this
    rw [List.getElem?_set_self hi] at h
    exact ⟨(Option.some.inj h).symm, hi⟩
  refine ⟨E.ok, by simp [E.len], fun j e h => ?_, fun j es h => ?_, fun a b es fs l hab h1 h2 h3 => ?_⟩
  · by_cases hj : i = j
    · subst hj
      exact absurd (at_i h).1 (fun z => nomatch z)
    · rw [List.getElem?_set_ne hj] at h ⊢
      exact E.dat j e h
  · by_cases hj : i = j
    · subst hj
      obtain ⟨z, hi⟩ := at_i h
      cases z
      exact ⟨p, xs, List.getElem?_set_self (by rw [E.len]; exact hi), hp, hf, hm, h0, r⟩
    · rw [List.getElem?_set_ne hj] at h ⊢
      exact E.own j es h
  · by_cases ha : i = a
    · subst ha
      have hb : i ≠ b := hab
      obtain ⟨_, hi⟩ := at_i h1
      rw [List.getElem?_set_self (by rw [E.len]; exact hi)] at h3
      cases h3
      rw [List.getElem?_set_ne hb] at h2 ⊢
      exact fun z => hb (hn b fs h2 z).symm
    · rw [List.getElem?_set_ne ha] at h1 h3
      by_cases hb : i = b
      · subst hb
        obtain ⟨_, hi⟩ := at_i h2
        rw [List.getElem?_set_self (by rw [E.len]; exact hi)]
        exact fun z => by
          have z' : p = l := by
            have := Option.some.inj (Option.some.inj z)
            cases this
            rfl
          subst z'
          exact hab (hn a es h1 h3)
      · rw [List.getElem?_set_ne hb] at h2 ⊢
        exact E.apart a b es fs l hab h1 h2 h3
end
end Z

namespace Z
open PySem L2

/-! ### worlds grow -/
section
variable {S T U : Wd} {p : Addr} {o : HO}
theorem Le.refl (S : Wd) : Le S S := ⟨fun _ _ e => e, fun _ e => e⟩
theorem Le.trans (a : Le S T) (b : Le T U) : Le S U := ⟨fun x o h => b.fz x o (a.fz x o h), fun x h => b.mu x (a.mu x h)⟩
theorem ne_new {H : Hp} {a : Addr} (h : H a = some o) (hn : H p = none) : a ≠ p := ne_of_none h hn
/-- a new object, frozen -/
theorem Gr.lay (ok : S.Ok) (hn : S.H p = none) (o : HO) : Gr S ⟨upd S.F p o, upd S.H p o, S.M⟩ := by
  refine ⟨ok, ⟨fun a u e => ?_, fun a e => ?_⟩, fun a u e => ?_, fun a u e _ => ?_, fun a u e f => ?_, fun _ _ _ => rfl⟩
  · dsimp only at e ⊢
    by_cases h : a = p
    · subst h
      rw [upd_same] at e ⊢
      exact e
    · rw [upd_ne h] at e ⊢
      exact ok.sub a u e
  · obtain ⟨h1, x, y, h2, hb⟩ := ok.pool a e
    have h : a ≠ p := ne_of_none h2 hn
    refine ⟨?_, x, y, ?_, hb⟩
    · show upd S.F p o a = none
      rw [upd_ne h]
      exact h1
    · show upd S.H p o a = _
      rw [upd_ne h]
      exact h2
  · show upd S.F p o a = _
    rw [upd_ne (ne_of_none (ok.sub a u e) hn)]
    exact e
  · show upd S.H p o a = _
    rw [upd_ne (ne_of_none e hn)]
    exact e
  · show upd S.F p o a = _
    rw [upd_ne (ne_of_none e hn)]
    exact f
/-- a new object, owned -/
theorem Gr.layO (ok : S.Ok) (hn : S.H p = none) (o : HO) : Gr S ⟨S.F, upd S.H p o, S.M⟩ := by
  refine ⟨ok, ⟨fun a u e => ?_, fun a e => ?_⟩, fun a u e => e, fun a u e _ => ?_, fun a u e f => f, fun _ _ _ => rfl⟩
  · show upd S.H p o a = _
    rw [upd_ne (ne_of_none (ok.sub a u e) hn)]
    exact ok.sub a u e
  · obtain ⟨h1, x, y, h2, hb⟩ := ok.pool a e
    have h : a ≠ p := ne_of_none h2 hn
    refine ⟨h1, x, y, ?_, hb⟩
    show upd S.H p o a = _
    rw [upd_ne h]
    exact h2
  · show upd S.H p o a = _
    rw [upd_ne (ne_of_none e hn)]
    exact e
/-- what was new is frozen -/
theorem Gr.freeze (g : Gr S T) (hn : S.H p = none) (hp : T.H p = some o) (hm : T.M p = false) : Gr S ⟨upd T.F p o, T.H, T.M⟩ := by
  refine ⟨g.oS, ⟨fun a u e => ?_, fun a e => ?_⟩, fun a u e => ?_, g.hp, fun a u e f => ?_, g.mu⟩
  · dsimp only at e ⊢
    by_cases h : a = p
    · subst h
      rw [upd_same] at e
      cases e
      exact hp
    · rw [upd_ne h] at e
      exact g.ok.sub a u e
  · obtain ⟨h1, h2⟩ := g.ok.pool a e
    have h : a ≠ p := fun z => by
      subst z
      have e' : T.M a = true := e
      rw [hm] at e'
      cases e'
    refine ⟨?_, h2⟩
    show upd T.F p o a = none
    rw [upd_ne h]
    exact h1
  · have h : a ≠ p := ne_of_none (g.oS.sub a u e) hn
    show upd T.F p o a = _
    rw [upd_ne h]
    exact g.fz a u e
  · have h : a ≠ p := ne_of_none e hn
    show upd T.F p o a = _
    rw [upd_ne h]
    exact g.fr a u e f
theorem Le.freeze (hf : T.F p = none) : Le T ⟨upd T.F p o, T.H, T.M⟩ := ⟨fun a u e => by
  show upd T.F p o a = _
  rw [upd_ne (ne_of_none e hf)]
  exact e, fun _ e => e⟩
/-- a list of one's own is changed -/
theorem Wd.Ok.change (ok : T.Ok) (hf : T.F p = none) (hm : T.M p = false) : Wd.Ok ⟨T.F, upd T.H p o, T.M⟩ := by
  refine ⟨fun a u e => ?_, fun a e => ?_⟩
  · show upd T.H p o a = _
    rw [upd_ne (ne_of_none e hf)]
    exact ok.sub a u e
  · obtain ⟨h1, x, y, h2, hb⟩ := ok.pool a e
    have h : a ≠ p := fun z => by
      subst z
      have e' : T.M a = true := e
      rw [hm] at e'
      cases e'
    refine ⟨h1, x, y, ?_, hb⟩
    show upd T.H p o a = _
    rw [upd_ne h]
    exact h2
theorem Gr.change (g : Gr S T) (hn : S.H p = none) (hf : T.F p = none) (hm : T.M p = false) (o : HO) : Gr S ⟨T.F, upd T.H p o, T.M⟩ := by
  refine ⟨g.oS, g.ok.change hf hm, g.fz, fun a u e m => ?_, g.fr, g.mu⟩
  show upd T.H p o a = _
  rw [upd_ne (ne_of_none e hn)]
  exact g.hp a u e m
/-- a pool is changed -/
theorem Gr.poolSet (ok : S.Ok) (hm : S.M p = true) (x y : Int) (hxy : 0 ≤ y ∧ y < 4294967296) : Gr S ⟨S.F, upd S.H p (.lst [.int x, .int y]), S.M⟩ := by
  refine ⟨ok, ⟨fun a u e => ?_, fun a e => ?_⟩, fun a u e => e, fun a u e m => ?_, fun a u e f => f, fun _ _ _ => rfl⟩
  · have h : a ≠ p := fun z => by
      subst z
      rw [(ok.pool a hm).1] at e
      cases e
    show upd S.H p _ a = _
    rw [upd_ne h]
    exact ok.sub a u e
  · obtain ⟨h1, x', y', h2, hb⟩ := ok.pool a e
    by_cases h : a = p
    · subst h
      exact ⟨h1, x, y, upd_same, hxy⟩
    · refine ⟨h1, x', y', ?_, hb⟩
      show upd S.H p _ a = _
      rw [upd_ne h]
      exact h2
  · have h : a ≠ p := fun z => by
      subst z
      rw [hm] at m
      cases m
    show upd S.H p _ a = _
    rw [upd_ne h]
    exact e
/-- a list of one's own becomes a pool -/
theorem Gr.toPool (g : Gr S T) (hn : S.H p = none) {x y : Int} (hp : T.H p = some (.lst [.int x, .int y])) (hf : T.F p = none) (hxy : 0 ≤ y ∧ y < 4294967296) : Gr S ⟨T.F, T.H, fun a => if a = p then true else T.M a⟩ := by
  refine ⟨g.oS, ⟨g.ok.sub, fun a e => ?_⟩, g.fz, g.hp, g.fr, fun a u e => ?_⟩
  · by_cases h : a = p
    · subst h
      exact ⟨hf, x, y, hp, hxy⟩
    · refine g.ok.pool a ?_
      have e' : (if a = p then true else T.M a) = true := e
      rw [if_neg h] at e'
      exact e'
  · have h : a ≠ p := ne_of_none e hn
    show (if a = p then true else T.M a) = _
    rw [if_neg h]
    exact g.mu a u e
end

/-! ### judgements -/
section
variable (K : PySem.W.Frag) (E : XK)
/-- what is wanted of an exception -/
def XP (S : Wd) (kx : Addr → D → Prop) : Prop := ∀ (T : Wd) (C dx : Addr) (v : V) (d : D), Gr S T → T.H dx = some (.xd [("value", v)]) → Rp K T d v → kx C d → E (.ref C) (some dx) T.H
def EC (te : TE) (Γ : Ctx) (k : D → Prop) (kx : Addr → D → Prop) : Prop := ∀ (S0 S : Wd) (σ : L2.St) (Q : VK), EnvOk K S0 S σ Γ → (∀ (T : Wd) v d, Gr S T → Rp K T d v → k d → Q v T.H) → XP K E S kx → te σ S.H Q
def ET (tt : TT) (Γ : Ctx) (k : Bool → Prop) (kx : Addr → D → Prop) : Prop := ∀ (S0 S : Wd) (σ : L2.St) (Q : Bool → Hp → Prop), EnvOk K S0 S σ Γ → (∀ (T : Wd) b, Gr S T → k b → Q b T.H) → XP K E S kx → tt σ S.H Q
def EA (ta : TA) (Γ : Ctx) (k : List D → Prop) (kx : Addr → D → Prop) : Prop := ∀ (S0 S : Wd) (σ : L2.St) (Q : List V → Hp → Prop), EnvOk K S0 S σ Γ → (∀ (T : Wd) vs ds, Gr S T → RpL K T ds vs → k ds → Q vs T.H) → XP K E S kx → ta σ S.H Q
/-- a new list -/
def EN (te : TE) (Γ : Ctx) (k : List D → Prop) (kx : Addr → D → Prop) : Prop := ∀ (S0 S : Wd) (σ : L2.St) (Q : VK), EnvOk K S0 S σ Γ →
  (∀ (T : Wd) p xs ds, Gr S T → S.H p = none → T.H p = some (.lst xs) → T.F p = none → T.M p = false → RpL K T ds xs → k ds → Q (.ref p) T.H) → XP K E S kx → te σ S.H Q
/-- a list that may be read -/
def EL (te : TE) (Γ : Ctx) (k : List D → Prop) (kx : Addr → D → Prop) : Prop := ∀ (S0 S : Wd) (σ : L2.St) (Q : VK), EnvOk K S0 S σ Γ →
  (∀ (T : Wd) p xs ds, Gr S T → T.H p = some (.lst xs) → T.M p = false → RpL K T ds xs → k ds → Q (.ref p) T.H) → XP K E S kx → te σ S.H Q
structure Po where
  nx : Ctx → Prop := fun _ => False
  rt : D → Prop := fun _ => False
  rn : List D → Prop := fun _ => False
  bk : Ctx → Prop := fun _ => False
  ct : Ctx → Prop := fun _ => False
  kx : Addr → D → Prop := fun _ _ => False
structure Goal (S0 S : Wd) (P : Po) (D : Ends) : Prop where
  nx : ∀ (T : Wd) τ Δ, Gr S0 T → Le S T → EnvOk K S0 T τ Δ → P.nx Δ → D.nx τ T.H
  rt : ∀ (T : Wd) v d, Gr S0 T → Rp K T d v → P.rt d → D.rt v T.H
  rn : ∀ (T : Wd) p xs ds, Gr S0 T → S0.H p = none → T.H p = some (.lst xs) → T.F p = none → T.M p = false → RpL K T ds xs → P.rn ds → D.rt (.ref p) T.H
  bk : ∀ (T : Wd) τ Δ, Gr S0 T → Le S T → EnvOk K S0 T τ Δ → P.bk Δ → D.bk τ T.H
  ct : ∀ (T : Wd) τ Δ, Gr S0 T → Le S T → EnvOk K S0 T τ Δ → P.ct Δ → D.ct τ T.H
  kx : XP K E S0 P.kx
def SC (ts : TS) (Γ : Ctx) (P : Po) : Prop := ∀ (S0 S : Wd) (σ : L2.St) (D : Ends), Gr S0 S → EnvOk K S0 S σ Γ → Goal K E S0 S P D → ts D σ S.H
end
section
variable {K : PySem.W.Frag} {E : XK} {S0 S T : Wd} {te ta tb : TE} {tt uu : TT} {t u : TS} {Γ : Ctx} {k k' : D → Prop} {kx : Addr → D → Prop} {P : Po}
theorem XP.gr (h : XP K E S kx) (g : Gr S T) : XP K E T kx := fun U C dx v d g2 => h U C dx v d (g.trans g2)
theorem EC.mono (h : EC K E te Γ k kx) (hk : ∀ d, k d → k' d) : EC K E te Γ k' kx := fun S0 S σ Q e q x => h S0 S σ Q e (fun T v d g r kd => q T v d g r (hk d kd)) x
theorem EL.mono {k k' : List D → Prop} (h : EL K E te Γ k kx) (hk : ∀ d, k d → k' d) : EL K E te Γ k' kx := fun S0 S σ Q e q x => h S0 S σ Q e (fun T p xs ds g a b r kd => q T p xs ds g a b r (hk ds kd)) x
theorem EN.mono {k k' : List D → Prop} (h : EN K E te Γ k kx) (hk : ∀ d, k d → k' d) : EN K E te Γ k' kx := fun S0 S σ Q e q x => h S0 S σ Q e (fun T p xs ds g a b c d r kd => q T p xs ds g a b c d r (hk ds kd)) x
theorem ET.mono {k k' : Bool → Prop} (h : ET K E tt Γ k kx) (hk : ∀ d, k d → k' d) : ET K E tt Γ k' kx := fun S0 S σ Q e q x => h S0 S σ Q e (fun T b g kd => q T b g (hk b kd)) x
theorem EA.mono {t : TA} {k k' : List D → Prop} (h : EA K E t Γ k kx) (hk : ∀ d, k d → k' d) : EA K E t Γ k' kx := fun S0 S σ Q e q x => h S0 S σ Q e (fun T vs ds g r kd => q T vs ds g r (hk ds kd)) x
theorem Goal.le {D : Ends} (G : Goal K E S0 S P D) (l : Le S T) : Goal K E S0 T P D :=
  ⟨fun U τ Δ g l2 => G.nx U τ Δ g (l.trans l2), G.rt, G.rn, fun U τ Δ g l2 => G.bk U τ Δ g (l.trans l2), fun U τ Δ g l2 => G.ct U τ Δ g (l.trans l2), G.kx⟩
/-- freeze what is new -/
theorem ec_new (h : EN K E te Γ (fun ds => k (.lst ds)) kx) : EC K E te Γ k kx := fun S0 S σ Q e q x =>
  h S0 S σ Q e (fun T p xs ds g hn hp hf hm r kd => q ⟨upd T.F p (.lst xs), T.H, T.M⟩ (.ref p) (.lst ds) (g.freeze hn hp hm) (by
    unfold Rp
    exact ⟨p, xs, rfl, upd_same, r.mono (Le.freeze hf)⟩) kd) x
theorem el_new {k : List D → Prop} (h : EN K E te Γ k kx) : EL K E te Γ k kx := fun S0 S σ Q e q x =>
  h S0 S σ Q e (fun T p xs ds g hn hp hf hm r kd => q T p xs ds g hp hm r kd) x
theorem el_dat {k : List D → Prop} (h : EC K E te Γ (fun d => ∃ ds, d = .lst ds ∧ k ds) kx) : EL K E te Γ k kx := fun S0 S σ Q e q x =>
  h S0 S σ Q e (fun T v d g r ⟨ds, ed, kd⟩ => by
    subst ed
    unfold Rp at r
    obtain ⟨a, xs, rfl, f, r⟩ := r
    exact q T a xs ds g (g.ok.sub _ _ f) (g.ok.mfz f) r kd) x
theorem el_own {k : List D → Prop} {i : Nat} {ds : List D} (h : Γ[i]? = some (.own ds)) (hk : k ds) : EL K E (tVar i) Γ k kx := fun S0 S σ Q e q x => by
  obtain ⟨l, xs, h1, h2, h3, h4, _, r⟩ := e.own i ds h
  exact ⟨_, h1, q S l xs ds (Gr.refl e.ok) h2 h4 r hk⟩
theorem ec_var {i : Nat} {d : D} (h : Γ[i]? = some (.dat d)) (hk : k d) : EC K E (tVar i) Γ k kx := fun S0 S σ Q e q x => by
  obtain ⟨v, h1, r⟩ := e.dat i d h
  exact ⟨v, h1, q S v d (Gr.refl e.ok) r hk⟩
theorem el_var {k : List D → Prop} {i : Nat} {ds : List D} (h : Γ[i]? = some (.dat (.lst ds))) (hk : k ds) : EL K E (tVar i) Γ k kx := el_dat (ec_var h ⟨ds, rfl, hk⟩)
theorem ec_c {v : V} {d : D} (h : ∀ S : Wd, Rp K S d v) (hk : k d) : EC K E (tC v) Γ k kx := fun S0 S σ Q e q x => q S v d (Gr.refl e.ok) (h S) hk
theorem ec_int {i : Int} (hk : k (.int i)) : EC K E (tC (.int i)) Γ k kx := ec_c (fun _ => by unfold Rp; rfl) hk
theorem ec_bl {i : Bool} (hk : k (.bl i)) : EC K E (tC (.bl i)) Γ k kx := ec_c (fun _ => by unfold Rp; rfl) hk
theorem ec_str {i : Str} (hk : k (.str i)) : EC K E (tC (.str i)) Γ k kx := ec_c (fun _ => by unfold Rp; rfl) hk
theorem ec_non (hk : k .non) : EC K E (tC .non) Γ k kx := ec_c (fun _ => by unfold Rp; rfl) hk
theorem ec_val {v : V} (hk : k (.val v)) : EC K E (tC v) Γ k kx := ec_c (fun _ => by unfold Rp; rfl) hk

/-! ### operators by data -/
def RD (K : PySem.W.Frag) (r : R2) (x y : D) (k : D → Prop) : Prop := ∀ (S : Wd) (Q : VK) (v w : V), S.Ok → Rp K S x v → Rp K S y w → (∀ (T : Wd) u d, Gr S T → Rp K T d u → k d → Q u T.H) → r v w S.H Q
theorem ec_op {r : R2} (h : EC K E ta Γ (fun x => EC K E tb Γ (fun y => RD K r x y k) kx) kx) : EC K E (tOp r ta tb) Γ k kx := fun S0 S σ Q e q x =>
  h S0 S σ _ e (fun T v d g r1 h2 => h2 S0 T σ _ (e.gr g) (fun U w d2 g2 r2 h3 => h3 U Q v w g2.ok (r1.mono g2.le) r2 fun W u d3 g3 r3 kd => q W u d3 ((g.trans g2).trans g3) r3 kd) (x.gr g)) x
theorem rd_int {f : Int → Int → Int} {i j : Int} (hk : k (.int (f i j))) : RD K (rI0 fun i j => .int (f i j)) (.int i) (.int j) k := fun S Q v w ok r1 r2 q =>
  ⟨i, j, r1.int, r2.int, q S _ _ (Gr.refl ok) (by unfold Rp; rfl) hk⟩
theorem rd_bool {f : Int → Int → Bool} {i j : Int} (hk : k (.bl (f i j))) : RD K (rI0 fun i j => .bl (f i j)) (.int i) (.int j) k := fun S Q v w ok r1 r2 q =>
  ⟨i, j, r1.int, r2.int, q S _ _ (Gr.refl ok) (by unfold Rp; rfl) hk⟩
theorem rd_intC {C : Int → Int → Prop} {f : Int → Int → Int} {i j : Int} (hc : C i j) (hk : k (.int (f i j))) : RD K (rI C fun i j => .int (f i j)) (.int i) (.int j) k := fun S Q v w ok r1 r2 q =>
  ⟨i, j, r1.int, r2.int, hc, q S _ _ (Gr.refl ok) (by unfold Rp; rfl) hk⟩
theorem dec_v {i j : Int} : decide (V.int i = V.int j) = decide (i = j) := by
  by_cases h : i = j
  · subst h
    simp
  · rw [decide_eq_false h]
    exact decide_eq_false fun z => h (V.int.inj z)
theorem dec_vs {i j : Str} : decide (V.str i = V.str j) = decide (i = j) := by
  by_cases h : i = j
  · subst h
    simp
  · rw [decide_eq_false h]
    exact decide_eq_false fun z => h (V.str.inj z)
theorem rd_eqI {i j : Int} (hk : k (.bl (decide (i = j)))) : RD K rEq (.int i) (.int j) k := fun S Q v w ok r1 r2 q => by
  rw [r1.int, r2.int]
  exact ⟨rfl, by rw [dec_v]; exact q S _ _ (Gr.refl ok) (by unfold Rp; rfl) hk⟩
theorem rd_neI {i j : Int} (hk : k (.bl (!decide (i = j)))) : RD K rNe (.int i) (.int j) k := fun S Q v w ok r1 r2 q => by
  rw [r1.int, r2.int]
  exact ⟨rfl, by rw [dec_v]; exact q S _ _ (Gr.refl ok) (by unfold Rp; rfl) hk⟩
theorem rd_eqS {i j : Str} (hk : k (.bl (decide (i = j)))) : RD K rEq (.str i) (.str j) k := fun S Q v w ok r1 r2 q => by
  unfold Rp at r1 r2
  rw [r1, r2]
  exact ⟨rfl, by rw [dec_vs]; exact q S _ _ (Gr.refl ok) (by unfold Rp; rfl) hk⟩
theorem rd_neS {i j : Str} (hk : k (.bl (!decide (i = j)))) : RD K rNe (.str i) (.str j) k := fun S Q v w ok r1 r2 q => by
  unfold Rp at r1 r2
  rw [r1, r2]
  exact ⟨rfl, by rw [dec_vs]; exact q S _ _ (Gr.refl ok) (by unfold Rp; rfl) hk⟩
theorem ec_neg {f : Int → Int} (h : EC K E ta Γ (fun x => ∃ i, x = .int i ∧ k (.int (f i))) kx) : EC K E (tUn (rU fun i => .int (f i)) ta) Γ k kx := fun S0 S σ Q e q x =>
  h S0 S σ _ e (fun T v d g r ⟨i, ed, kd⟩ => by
    subst ed
    exact ⟨i, r.int, q T _ _ g (by unfold Rp; rfl) kd⟩) x

/-! ### deep equality -/
mutual
def D.py : D → PyData
  | .non => .none
  | .bl b => .bool b
  | .int i => .int i
  | .str x => .str x
  | .lst ds => .list (D.pys ds)
  | .tup ds => .tuple (D.pys ds)
  | _ => .none
def D.pys : List D → List PyData
  | [] => []
  | d :: ds => d.py :: D.pys ds
end
mutual
/-- plain data -/
def D.pl : D → Bool
  | .non => true
  | .bl _ => true
  | .int _ => true
  | .str _ => true
  | .lst ds => D.pls ds
  | .tup ds => D.pls ds
  | _ => false
def D.pls : List D → Bool
  | [] => true
  | d :: ds => d.pl && D.pls ds
end
mutual
theorem Rp.dp (ok : S.Ok) : ∀ {d : D} {v : V}, d.pl = true → Rp K S d v → Dp K S.H v d.py
  | .non, v, _, h => by unfold Rp at h; subst h; unfold D.py; exact .non
  | .bl b, v, _, h => by unfold Rp at h; subst h; unfold D.py; exact .bl b
  | .int i, v, _, h => by unfold Rp at h; subst h; unfold D.py; exact .int i
  | .str x, v, _, h => by unfold Rp at h; subst h; unfold D.py; exact .str x
  | .lst ds, v, p, h => by
    unfold Rp at h
    obtain ⟨a, xs, rfl, f, r⟩ := h
    unfold D.pl at p
    unfold D.py
    exact .lst (SqL.of (ok.sub _ _ f)) (RpL.dp ok p r)
  | .tup ds, v, p, h => by
    unfold Rp at h
    obtain ⟨a, xs, rfl, f, r⟩ := h
    unfold D.pl at p
    unfold D.py
    exact .tup (sqt_mono ok.sub f) (RpL.dp ok p r)
  | .scr _, _, p, _ => by unfold D.pl at p; cases p
  | .pool, _, p, _ => by unfold D.pl at p; cases p
  | .any, _, p, _ => by unfold D.pl at p; cases p
  | .val _, _, p, _ => by unfold D.pl at p; cases p
  | .ins _ _ _, _, p, _ => by unfold D.pl at p; cases p
theorem RpL.dp (ok : S.Ok) : ∀ {ds : List D} {vs : List V}, D.pls ds = true → RpL K S ds vs → DpAll K S.H vs (D.pys ds)
  | [], vs, _, h => by rw [h.nil_inv]; unfold D.pys; exact .nil
  | d :: ds, vs, p, h => by
    obtain ⟨y, ys, rfl, r, t⟩ := h.cons_inv
    unfold D.pls at p
    rw [Bool.and_eq_true] at p
    unfold D.pys
    exact .cons (Rp.dp ok p.1 r) (RpL.dp ok p.2 t)
end
/-- == of data -/
theorem ec_eqD (h : EC K E ta Γ (fun x => EC K E tb Γ (fun y => x.pl = true ∧ y.pl = true ∧ SeqAt.shaped x.py = true ∧ SeqAt.shaped y.py = true ∧ k (.bl (PyData.eqv x.py y.py))) kx) kx) : EC K E (tOp (rEqD K) ta tb) Γ k kx :=
  ec_op (h.mono fun x hx => EC.mono hx fun y ⟨p1, p2, s1, s2, kd⟩ S Q v w ok r1 r2 q => ⟨x.py, y.py, Rp.dp ok p1 r1, Rp.dp ok p2 r2, s1, s2, q S _ _ (Gr.refl ok) (by unfold Rp; rfl) kd⟩)
theorem ec_neD (h : EC K E ta Γ (fun x => EC K E tb Γ (fun y => x.pl = true ∧ y.pl = true ∧ SeqAt.shaped x.py = true ∧ SeqAt.shaped y.py = true ∧ k (.bl (!PyData.eqv x.py y.py))) kx) kx) : EC K E (tOp (rNeD K) ta tb) Γ k kx :=
  ec_op (h.mono fun x hx => EC.mono hx fun y ⟨p1, p2, s1, s2, kd⟩ S Q v w ok r1 r2 q => ⟨x.py, y.py, Rp.dp ok p1 r1, Rp.dp ok p2 r2, s1, s2, q S _ _ (Gr.refl ok) (by unfold Rp; rfl) kd⟩)

/-! ### tests -/
theorem et_test {kb : Bool → Prop} (h : EC K E te Γ (fun x => ∃ b, x = .bl b ∧ kb b) kx) : ET K E (tTest te) Γ kb kx := fun S0 S σ Q e q x =>
  h S0 S σ _ e (fun T v d g r ⟨b, ed, kd⟩ => by
    subst ed
    unfold Rp at r
    exact ⟨b, r, q T b g kd⟩) x
theorem et_B {kb : Bool → Prop} (h : EC K E te Γ (fun x => ∃ b, x = .bl b ∧ kb b) kx) : ET K E (tB te) Γ kb kx := fun S0 S σ Q e q x =>
  h S0 S σ _ e (fun T v d g r ⟨b, ed, kd⟩ => by
    subst ed
    unfold Rp at r
    exact ⟨b, r, q T b g kd⟩) x
theorem et_not {kb : Bool → Prop} (h : ET K E tt Γ (fun b => kb (!b)) kx) : ET K E (tNot tt) Γ kb kx := fun S0 S σ Q e q x =>
  h S0 S σ _ e (fun T b g kd => q T (!b) g kd) x
theorem et_and {kb : Bool → Prop} (h : ET K E tt Γ (fun b => if b = true then ET K E uu Γ kb kx else kb false) kx) : ET K E (tAnd tt uu) Γ kb kx := fun S0 S σ Q e q x =>
  h S0 S σ _ e (fun T b g kd => by
    cases b with
    | true =>
      have h2 : ET K E uu Γ kb kx := kd
      show uu σ T.H Q
      exact h2 S0 T σ Q (e.gr g) (fun U b g2 kd => q U b (g.trans g2) kd) (x.gr g)
    | false =>
      show Q false T.H
      exact q T false g kd) x
theorem et_or {kb : Bool → Prop} (h : ET K E tt Γ (fun b => if b = true then kb true else ET K E uu Γ kb kx) kx) : ET K E (tOr tt uu) Γ kb kx := fun S0 S σ Q e q x =>
  h S0 S σ _ e (fun T b g kd => by
    cases b with
    | false =>
      have h2 : ET K E uu Γ kb kx := kd
      show uu σ T.H Q
      exact h2 S0 T σ Q (e.gr g) (fun U b g2 kd => q U b (g.trans g2) kd) (x.gr g)
    | true =>
      show Q true T.H
      exact q T true g kd) x
theorem ec_andV (h : EC K E ta Γ (fun x => ∃ b, x = .bl b ∧ if b = true then EC K E tb Γ k kx else k (.bl false)) kx) : EC K E (tAndV ta tb) Γ k kx := fun S0 S σ Q e q x =>
  h S0 S σ _ e (fun T v d g r ⟨b, ed, kd⟩ => by
    subst ed
    unfold Rp at r
    refine ⟨b, r, ?_⟩
    cases b with
    | true =>
      have h2 : EC K E tb Γ k kx := kd
      show tb σ T.H Q
      exact h2 S0 T σ Q (e.gr g) (fun U v d g2 r kd => q U v d (g.trans g2) r kd) (x.gr g)
    | false =>
      show Q (.bl false) T.H
      exact q T _ _ g (by unfold Rp; rfl) kd) x
theorem ec_orV (h : EC K E ta Γ (fun x => ∃ b, x = .bl b ∧ if b = true then k (.bl true) else EC K E tb Γ k kx) kx) : EC K E (tOrV ta tb) Γ k kx := fun S0 S σ Q e q x =>
  h S0 S σ _ e (fun T v d g r ⟨b, ed, kd⟩ => by
    subst ed
    unfold Rp at r
    refine ⟨b, r, ?_⟩
    cases b with
    | false =>
      have h2 : EC K E tb Γ k kx := kd
      show tb σ T.H Q
      exact h2 S0 T σ Q (e.gr g) (fun U v d g2 r kd => q U v d (g.trans g2) r kd) (x.gr g)
    | true =>
      show Q (.bl true) T.H
      exact q T _ _ g (by unfold Rp; rfl) kd) x
theorem ec_notV (h : EC K E ta Γ (fun x => ∃ b, x = .bl b ∧ k (.bl (!b))) kx) : EC K E (tNotV ta) Γ k kx := fun S0 S σ Q e q x =>
  h S0 S σ _ e (fun T v d g r ⟨b, ed, kd⟩ => by
    subst ed
    unfold Rp at r
    exact ⟨b, r, q T _ _ g (by unfold Rp; rfl) kd⟩) x
theorem ec_if (h : ET K E tt Γ (fun b => if b = true then EC K E ta Γ k kx else EC K E tb Γ k kx) kx) : EC K E (tIf tt ta tb) Γ k kx := fun S0 S σ Q e q x =>
  h S0 S σ _ e (fun T b g kd => by
    cases b with
    | true =>
      have h2 : EC K E ta Γ k kx := kd
      show ta σ T.H Q
      exact h2 S0 T σ Q (e.gr g) (fun U v d g2 r kd => q U v d (g.trans g2) r kd) (x.gr g)
    | false =>
      have h2 : EC K E tb Γ k kx := kd
      show tb σ T.H Q
      exact h2 S0 T σ Q (e.gr g) (fun U v d g2 r kd => q U v d (g.trans g2) r kd) (x.gr g)) x
theorem ec_isN (h : EC K E ta Γ (fun x => k (.bl (match x with | .non => true | _ => false)) ∧ (match x with | .val _ => False | .any => False | _ => True)) kx) : EC K E (tIsN ta) Γ k kx := fun S0 S σ Q e q x =>
  h S0 S σ _ e (fun T v d g r ⟨kd, hx⟩ => by
    refine q T _ _ g ?_ kd
    unfold Rp
    cases d <;> unfold Rp at r <;> first | (subst r; rfl) | (obtain ⟨a, r⟩ := r; obtain ⟨_, r⟩ := r; first | (obtain ⟨r, _⟩ := r; subst r; rfl) | (subst r; rfl)) | exact hx.elim | skip
    all_goals first | (obtain ⟨a, r, _⟩ := r; subst r; rfl) | (obtain ⟨a, b, c, r, _⟩ := r; subst r; rfl)) x

/-! ### arguments -/
theorem ea_nil {kl : List D → Prop} (h : kl []) : EA K E tNil Γ kl kx := fun S0 S σ Q e q x => q S [] [] (Gr.refl e.ok) RpL.nil h
theorem ea_cons {t : TA} {kl : List D → Prop} (h : EC K E te Γ (fun d => EA K E t Γ (fun ds => kl (d :: ds)) kx) kx) : EA K E (tCons te t) Γ kl kx := fun S0 S σ Q e q x =>
  h S0 S σ _ e (fun T v d g r h2 => h2 S0 T σ _ (e.gr g) (fun U vs ds g2 r2 kd => q U _ _ (g.trans g2) (RpL.cons (r.mono g2.le) r2) kd) (x.gr g)) x
theorem en_lst {t : TA} {kl : List D → Prop} (h : EA K E t Γ (fun ds => ds.length ≤ 1000 ∧ kl ds) kx) : EN K E (tLst t) Γ kl kx := fun S0 S σ Q e q x =>
  h S0 S σ _ e (fun T vs ds g r ⟨hl, kd⟩ => ⟨by rw [r.length]; exact Nat.le_trans hl (by decide), fun p hn => by
    have g2 := Gr.layO g.ok hn (.lst vs)
    exact q ⟨T.F, upd T.H p (.lst vs), T.M⟩ p vs ds (g.trans g2) (g.new hn) upd_same (g.ok.fnone hn) (g.ok.mnone hn) (r.mono g2.le) kd⟩) x
theorem ec_tup {t : TA} (h : EA K E t Γ (fun ds => ds.length ≤ 1000 ∧ k (.tup ds)) kx) : EC K E (tTup t) Γ k kx := fun S0 S σ Q e q x =>
  h S0 S σ _ e (fun T vs ds g r ⟨hl, kd⟩ => ⟨by rw [r.length]; exact Nat.le_trans hl (by decide), fun p hn => by
    have g2 := Gr.lay g.ok hn (.tup vs)
    exact q ⟨upd T.F p (.tup vs), upd T.H p (.tup vs), T.M⟩ _ (.tup ds) (g.trans g2) (by
      unfold Rp
      exact ⟨p, vs, rfl, SqT.of upd_same, r.mono g2.le⟩) kd⟩) x
end
end Z

namespace Z
open PySem PySem.Spec PyProof.Rows L2
section
variable {K : PySem.W.Frag} {E : XK} {S0 S T : Wd} {te ta tb tc : TE} {tt uu : TT} {t u : TS} {Γ : Ctx} {k k' : D → Prop} {kx : Addr → D → Prop} {P : Po} {kl : List D → Prop}

/-! ### statements -/
theorem sc_seq (h : SC K E t Γ { P with nx := fun Δ => SC K E u Δ P }) : SC K E (tSeq t u) Γ P := fun S0 S σ D g e G =>
  h S0 S σ { D with nx := u D } g e ⟨fun T τ Δ g2 l2 e2 h2 => h2 S0 T τ D g2 e2 (G.le l2), G.rt, G.rn, G.bk, G.ct, G.kx⟩
theorem sc_next (h : P.nx Γ) : SC K E tNext Γ P := fun S0 S σ D g e G => G.nx S σ Γ g (Le.refl S) e h
theorem sc_never (h : False) : SC K E tNever Γ P := h.elim
theorem sc_break (h : P.bk Γ) : SC K E tBreak Γ P := fun S0 S σ D g e G => G.bk S σ Γ g (Le.refl S) e h
theorem sc_cont (h : P.ct Γ) : SC K E tCont Γ P := fun S0 S σ D g e G => G.ct S σ Γ g (Le.refl S) e h
theorem sc_ret (h : EC K E te Γ P.rt P.kx) : SC K E (tRet te) Γ P := fun S0 S σ D g e G =>
  h S0 S σ _ e (fun T v d g2 r kd => G.rt T v d (g.trans g2) r kd) (G.kx.gr g)
theorem sc_retNew (h : EN K E te Γ P.rn P.kx) : SC K E (tRet te) Γ P := fun S0 S σ D g e G =>
  h S0 S σ _ e (fun T p xs ds g2 hn hp hf hm r kd => G.rn T p xs ds (g.trans g2) (g.new hn) hp hf hm r kd) (G.kx.gr g)
theorem sc_retOwn {i : Nat} {ds : List D} (h : Γ[i]? = some (.own ds)) (hk : P.rn ds) : SC K E (tRet (tVar i)) Γ P := fun S0 S σ D g e G => by
  obtain ⟨l, xs, h1, h2, h3, h4, h0, r⟩ := e.own i ds h
  exact ⟨_, h1, G.rn S l xs ds g h0 h2 h3 h4 r hk⟩
theorem sc_retOwnD {i : Nat} {ds : List D} (h : Γ[i]? = some (.own ds)) (hk : P.rt (.lst ds)) : SC K E (tRet (tVar i)) Γ P := fun S0 S σ D g e G => by
  obtain ⟨l, xs, h1, h2, h3, h4, h0, r⟩ := e.own i ds h
  refine ⟨_, h1, G.rt ⟨upd S.F l (.lst xs), S.H, S.M⟩ _ (.lst ds) (g.freeze h0 h2 h4) ?_ hk⟩
  unfold Rp
  exact ⟨l, xs, rfl, upd_same, r.mono (Le.freeze h3)⟩
theorem sc_retN (h : P.rt .non) : SC K E tRetN Γ P := fun S0 S σ D g e G => G.rt S .non .non g (by unfold Rp; rfl) h
theorem sc_drop (h : EC K E te Γ (fun _ => P.nx Γ) P.kx) : SC K E (tDrop te) Γ P := fun S0 S σ D g e G =>
  h S0 S σ _ e (fun T v d g2 r kd => G.nx T σ Γ (g.trans g2) g2.le (e.gr g2) kd) (G.kx.gr g)
theorem sc_if (h : ET K E tt Γ (fun b => if b = true then SC K E t Γ P else SC K E u Γ P) P.kx) : SC K E (tIfS tt t u) Γ P := fun S0 S σ D g e G =>
  h S0 S σ _ e (fun T b g2 kd => by
    cases b with
    | true =>
      have h2 : SC K E t Γ P := kd
      exact h2 S0 T σ D (g.trans g2) (e.gr g2) (G.le g2.le)
    | false =>
      have h2 : SC K E u Γ P := kd
      exact h2 S0 T σ D (g.trans g2) (e.gr g2) (G.le g2.le)) (G.kx.gr g)
theorem sc_asg {i : Nat} (h : EC K E te Γ (fun d => P.nx (Γ.set i (.dat d))) P.kx) : SC K E (tAsg te (gName i)) Γ P := fun S0 S σ D g e G =>
  h S0 S σ _ e (fun T v d g2 r kd => G.nx T _ _ (g.trans g2) g2.le ((e.gr g2).setDat r) kd) (G.kx.gr g)
/-- an owned address is no new one -/
theorem own_old {σ : L2.St} {p : Addr} (e : EnvOk K S0 S σ Γ) (hn : S.H p = none) {i : Nat} : ∀ j es, Γ[j]? = some (.own es) → σ[j]? = some (some (.ref p)) → j = i := fun j es h1 h2 => by
  obtain ⟨l, xs, a, b, _⟩ := e.own j es h1
  rw [h2] at a
  cases a
  rw [hn] at b
  cases b
theorem sc_asgNew {i : Nat} (h : EN K E te Γ (fun ds => P.nx (Γ.set i (.own ds))) P.kx) : SC K E (tAsg te (gName i)) Γ P := fun S0 S σ D g e G =>
  h S0 S σ _ e (fun T p xs ds g2 hn hp hf hm r kd => G.nx T _ _ (g.trans g2) g2.le ((e.gr g2).setOwn (g.new hn) hp hf hm r (own_old e hn)) kd) (G.kx.gr g)
/-- an own list is given up: it is data from now on -/
theorem sc_freeze (i : Nat) {ds : List D} (h : Γ[i]? = some (.own ds)) (hs : SC K E t (Γ.set i (.dat (.lst ds))) P) : SC K E t Γ P := fun S0 S σ D g e G => by
  obtain ⟨l, xs, h1, h2, h3, h4, h0, r⟩ := e.own i ds h
  have g2 : Gr S0 ⟨upd S.F l (.lst xs), S.H, S.M⟩ := g.freeze h0 h2 h4
  have hi : i < Γ.length := (List.getElem?_eq_some_iff.mp h).1
  have r2 : Rp K ⟨upd S.F l (.lst xs), S.H, S.M⟩ (.lst ds) (.ref l) := by
    unfold Rp
    exact ⟨l, xs, rfl, upd_same, r.mono (Le.freeze h3)⟩
  have keep : ∀ {j : Nat} {x : Sl}, (Γ.set i (.dat (.lst ds)))[j]? = some x → (i = j ∧ x = .dat (.lst ds)) ∨ (i ≠ j ∧ Γ[j]? = some x) := fun {j x} hx => by
    by_cases hj : i = j
    · subst hj
      rw [List.getElem?_set_self hi] at hx
      exact .inl ⟨rfl, (Option.some.inj hx).symm⟩
    · rw [List.getElem?_set_ne hj] at hx
      exact .inr ⟨hj, hx⟩
  refine hs S0 ⟨upd S.F l (.lst xs), S.H, S.M⟩ σ D g2 ⟨g2.ok, by simp [e.len], fun j d hj => ?_, fun j es hj => ?_, fun a b es fs l' hab ha hb hl => ?_⟩ (G.le (Le.freeze h3))
  · rcases keep hj with ⟨z, hx⟩ | ⟨z, hx⟩
    · cases hx
      rw [← z]
      exact ⟨_, h1, r2⟩
    · obtain ⟨v, a, b⟩ := e.dat j d hx
      exact ⟨v, a, b.mono (Le.freeze h3)⟩
  · rcases keep hj with ⟨z, hx⟩ | ⟨z, hx⟩
    · cases hx
    · obtain ⟨l2, ys, a1, a2, a3, a4, a5, a6⟩ := e.own j es hx
      have ne : l2 ≠ l := fun w => by
        subst w
        exact e.apart i j ds es l2 z h hx h1 a1
      refine ⟨l2, ys, a1, a2, ?_, a4, a5, a6.mono (Le.freeze h3)⟩
      show upd S.F l _ l2 = none
      rw [upd_ne ne]
      exact a3
  · rcases keep ha with ⟨z, hx⟩ | ⟨z, hx⟩
    · cases hx
    · rcases keep hb with ⟨z2, hx2⟩ | ⟨z2, hx2⟩
      · cases hx2
      · exact e.apart a b es fs l' hab hx hx2 hl
theorem sc_pass (h : P.nx Γ) : SC K E tNext Γ P := sc_next h
theorem sc_cut (M : Ctx → Prop) (h : SC K E t Γ { P with nx := M }) (h2 : ∀ Δ, M Δ → SC K E u Δ P) : SC K E (tSeq t u) Γ P := sc_seq fun S0 S σ D g e G =>
  h S0 S σ D g e ⟨fun T τ Δ a b c m => G.nx T τ Δ a b c (h2 Δ m), G.rt, G.rn, G.bk, G.ct, G.kx⟩
theorem SC.mono {P' : Po} (h : SC K E t Γ P) (h1 : ∀ Δ, P.nx Δ → P'.nx Δ) (h2 : ∀ d, P.rt d → P'.rt d) (h3 : ∀ d, P.rn d → P'.rn d) (h4 : ∀ Δ, P.bk Δ → P'.bk Δ) (h5 : ∀ Δ, P.ct Δ → P'.ct Δ) (h6 : ∀ C d, P.kx C d → P'.kx C d) : SC K E t Γ P' := fun S0 S σ D g e G =>
  h S0 S σ D g e ⟨fun T τ Δ a b c m => G.nx T τ Δ a b c (h1 Δ m), fun T v d a b c => G.rt T v d a b (h2 d c), fun T p xs ds a b c d e f m => G.rn T p xs ds a b c d e f (h3 ds m), fun T τ Δ a b c m => G.bk T τ Δ a b c (h4 Δ m), fun T τ Δ a b c m => G.ct T τ Δ a b c (h5 Δ m), fun T C dx v d a b c m => G.kx T C dx v d a b c (h6 C d m)⟩

/-! ### an own list is changed -/
theorem EnvOk.change {σ : L2.St} {i : Nat} {ds es : List D} {l : Addr} {ys : List V} (e : EnvOk K S0 S σ Γ) (h : Γ[i]? = some (.own ds)) (h1 : σ[i]? = some (some (.ref l))) (r : RpL K S es ys) :
    EnvOk K S0 ⟨S.F, upd S.H l (.lst ys), S.M⟩ σ (Γ.set i (.own es)) ∧ Le S ⟨S.F, upd S.H l (.lst ys), S.M⟩ ∧ (Gr S0 S → Gr S0 ⟨S.F, upd S.H l (.lst ys), S.M⟩) := by
  obtain ⟨l', xs, a1, a2, a3, a4, a5, a6⟩ := e.own i ds h
  rw [h1] at a1
  cases a1
  have hi : i < Γ.length := (List.getElem?_eq_some_iff.mp h).1
  have le : Le S ⟨S.F, upd S.H l (.lst ys), S.M⟩ := ⟨fun _ _ e => e, fun _ e => e⟩
  have keep : ∀ {j : Nat} {x : Sl}, (Γ.set i (.own es))[j]? = some x → (i = j ∧ x = .own es) ∨ (i ≠ j ∧ Γ[j]? = some x) := fun {j x} hx => by
    by_cases hj : i = j
    · subst hj
      rw [List.getElem?_set_self hi] at hx
      exact .inl ⟨rfl, (Option.some.inj hx).symm⟩
    · rw [List.getElem?_set_ne hj] at hx
      exact .inr ⟨hj, hx⟩
  refine ⟨⟨e.ok.change a3 a4, by simp [e.len], fun j d hj => ?_, fun j fs hj => ?_, fun a b es' fs l' hab ha hb hl => ?_⟩, le, fun g => g.change a5 a3 a4 _⟩
  · rcases keep hj with ⟨z, hx⟩ | ⟨z, hx⟩
    · cases hx
    · obtain ⟨v, p, q⟩ := e.dat j d hx
      exact ⟨v, p, q.mono le⟩
  · rcases keep hj with ⟨z, hx⟩ | ⟨z, hx⟩
    · cases hx
      rw [← z]
      exact ⟨l, ys, h1, upd_same, a3, a4, a5, r.mono le⟩
    · obtain ⟨l2, zs, b1, b2, b3, b4, b5, b6⟩ := e.own j fs hx
      have ne : l2 ≠ l := fun w => by
        subst w
        exact e.apart i j ds fs l2 z h hx h1 b1
      refine ⟨l2, zs, b1, ?_, b3, b4, b5, b6.mono le⟩
      show upd S.H l _ l2 = _
      rw [upd_ne ne]
      exact b2
  · rcases keep ha with ⟨z, hx⟩ | ⟨z, hx⟩
    · cases hx
      rcases keep hb with ⟨z2, hx2⟩ | ⟨z2, hx2⟩
      · exact absurd (z.symm.trans z2) hab
      · rw [← z] at hl
        exact e.apart i b ds fs l' z2 h hx2 hl
    · rcases keep hb with ⟨z2, hx2⟩ | ⟨z2, hx2⟩
      · cases hx2
        rw [← z2]
        exact e.apart a i es' ds l' (fun w => z w.symm) hx h hl
      · exact e.apart a b es' fs l' hab hx hx2 hl
theorem big {n : Nat} (h : n ≤ 1000000) : n ≤ sizeLine := Nat.le_trans h (by decide)
theorem bigL {n : Nat} (h : n < 1000000) : n < sizeLine := Nat.lt_of_lt_of_le h (by decide)
/-- found.append(e) -/
theorem sc_append {i : Nat} {ds : List D} (h : Γ[i]? = some (.own ds)) (hl : ds.length < 1000000) (he : EC K E te Γ (fun d => P.nx (Γ.set i (.own (ds ++ [d])))) P.kx) : SC K E (tDrop (tBM K "list" rAppend (tVar i) (tCons te tNil))) Γ P := fun S0 S σ D g e G => by
  obtain ⟨l, xs, h1, h2, h3, h4, h0, r⟩ := e.own i ds h
  refine ⟨_, h1, .inl ⟨rfl, xs, SqL.of h2⟩, ?_⟩
  refine he S0 S σ _ e (fun T v d g2 r2 kd => ?_) (G.kx.gr g)
  have e2 := e.gr g2
  obtain ⟨e3, l3, g3⟩ := e2.change h h1 (RpL.append (r.mono g2.le) (RpL.cons r2 RpL.nil))
  exact ⟨l, xs, v, rfl, rfl, g2.hp _ _ h2 h4, by rw [r.length]; exact bigL hl, G.nx _ σ _ (g3 (g.trans g2)) (g2.le.trans l3) e3 kd⟩
/-- found[j] = e -/
theorem sc_setItem {i : Nat} {ds : List D} {ti : TE} (h : Γ[i]? = some (.own ds))
    (he : EC K E te Γ (fun d => EC K E ti Γ (fun y => ∃ (z : Int) (j : Nat), y = .int z ∧ ixN ds.length z = some j ∧ P.nx (Γ.set i (.own (ds.set j d)))) P.kx) P.kx) : SC K E (tAsg te (gSub (tVar i) ti rSetL)) Γ P := fun S0 S σ D g e G => by
  obtain ⟨l, xs, h1, h2, h3, h4, h0, r⟩ := e.own i ds h
  refine he S0 S σ _ e (fun T v d g2 r2 h5 => ?_) (G.kx.gr g)
  refine ⟨_, h1, ?_⟩
  refine h5 S0 T σ _ (e.gr g2) (fun U w y g3 r3 ⟨z, j, ey, hj, kd⟩ => ?_) (G.kx.gr (g.trans g2))
  subst ey
  have g4 := g2.trans g3
  obtain ⟨e3, l3, g5⟩ := (e.gr g4).change h h1 (RpL.set (r2.mono g3.le) j (r.mono g4.le))
  exact ⟨l, xs, z, j, rfl, r3.int, g4.hp _ _ h2 h4, by rw [r.length]; exact hj, G.nx _ σ _ (g5 (g.trans g4)) (g4.le.trans l3) e3 kd⟩

/-! ### targets -/
def GC (K : PySem.W.Frag) (g : TG) (d : D) (Γ : Ctx) (kc : Ctx → Prop) : Prop := ∀ (S0 S : Wd) (σ : L2.St) (v : V) (Q : L2.St → Hp → Prop), EnvOk K S0 S σ Γ → Rp K S d v → (∀ τ Δ, EnvOk K S0 S τ Δ → kc Δ → Q τ S.H) → g v σ S.H Q
def GCs (K : PySem.W.Frag) (g : TGs) (ds : List D) (Γ : Ctx) (kc : Ctx → Prop) : Prop := ∀ (S0 S : Wd) (σ : L2.St) (vs : List V) (Q : L2.St → Hp → Prop), EnvOk K S0 S σ Γ → RpL K S ds vs → (∀ τ Δ, EnvOk K S0 S τ Δ → kc Δ → Q τ S.H) → g vs σ S.H Q
variable {kc : Ctx → Prop}
theorem gc_name {i : Nat} {d : D} (h : kc (Γ.set i (.dat d))) : GC K (gName i) d Γ kc := fun S0 S σ v Q e r q => q _ _ (e.setDat r) h
theorem gcs_nil (h : kc Γ) : GCs K gNil [] Γ kc := fun S0 S σ vs Q e r q => ⟨r.nil_inv, q σ Γ e h⟩
theorem gcs_cons {g : TG} {gs : TGs} {d : D} {ds : List D} (h : GC K g d Γ (fun Δ => GCs K gs ds Δ kc)) : GCs K (gCons g gs) (d :: ds) Γ kc := fun S0 S σ vs Q e r q => by
  obtain ⟨y, ys, rfl, r1, r2⟩ := r.cons_inv
  exact ⟨y, ys, rfl, h S0 S σ y _ e r1 fun τ Δ e2 h2 => h2 S0 S τ ys Q e2 r2 q⟩
theorem gc_tup {n : Nat} {gs : TGs} {ds : List D} (hn : ds.length = n) (h : GCs K gs ds Γ kc) : GC K (gTup K n gs) (.tup ds) Γ kc := fun S0 S σ v Q e r q => by
  unfold Rp at r
  obtain ⟨a, xs, rfl, f, r⟩ := r
  exact ⟨a, xs, rfl, sqt_mono e.ok.sub f, by rw [r.length]; exact hn, h S0 S σ xs Q e r q⟩
theorem sc_asgG {g : TG} (h : EC K E te Γ (fun d => GC K g d Γ P.nx) P.kx) : SC K E (tAsg te g) Γ P := fun S0 S σ D gg e G =>
  h S0 S σ _ e (fun T v d g2 r h2 => h2 S0 T σ v _ (e.gr g2) r fun τ Δ e2 hk => G.nx T τ Δ (gg.trans g2) g2.le e2 hk) (G.kx.gr gg)
theorem sc_par {i j : Nat} {t : TA} (h : EA K E t Γ (fun ds => ∃ a b, ds = [a, b] ∧ P.nx ((Γ.set i (.dat a)).set j (.dat b))) P.kx) : SC K E (tPar i j t) Γ P := fun S0 S σ D g e G =>
  h S0 S σ _ e (fun T vs ds g2 r ⟨a, b, ed, kd⟩ => by
    subst ed
    obtain ⟨y, ys, rfl, r1, r2⟩ := r.cons_inv
    obtain ⟨z, zs, rfl, r3, r4⟩ := r2.cons_inv
    cases r4.nil_inv
    exact ⟨y, z, rfl, G.nx T _ _ (g.trans g2) g2.le (((e.gr g2).setDat r1).setDat r3) kd⟩) (G.kx.gr g)
/-- x op= e -/
theorem sc_aug {i : Nat} {f : Int → Int → Int} {z : Int} (hd : Γ[i]? = some (.dat (.int z))) (h : EC K E te Γ (fun y => ∃ w, y = .int w ∧ P.nx (Γ.set i (.dat (.int (f z w))))) P.kx) : SC K E (tAug i te (ipI f)) Γ P := fun S0 S σ D g e G => by
  obtain ⟨v, h1, r⟩ := e.dat i _ hd
  refine ⟨v, h1, h S0 S σ _ e (fun T w y g2 r2 ⟨n, ey, kd⟩ => ?_) (G.kx.gr g)⟩
  subst ey
  exact ⟨z, n, r.int, r2.int, G.nx T _ _ (g.trans g2) g2.le ((e.gr g2).setDat (by unfold Rp; rfl)) kd⟩

/-! ### calls of defs -/
abbrev WP := List D → (D → Prop) → (Addr → D → Prop) → Prop
abbrev WPN := List D → (List D → Prop) → (Addr → D → Prop) → Prop
def spD (K : PySem.W.Frag) (wp : WP) : Sp := fun vs H Q E => ∃ (S : Wd) (ds : List D) (k : D → Prop) (kx : Addr → D → Prop), S.Ok ∧ S.H = H ∧ RpL K S ds vs ∧ wp ds k kx ∧ (∀ (T : Wd) v d, Gr S T → Rp K T d v → k d → Q v T.H) ∧ XP K E S kx
def spN (K : PySem.W.Frag) (wp : WPN) : Sp := fun vs H Q E => ∃ (S : Wd) (ds : List D) (k : List D → Prop) (kx : Addr → D → Prop), S.Ok ∧ S.H = H ∧ RpL K S ds vs ∧ wp ds k kx ∧
  (∀ (T : Wd) p xs ds, Gr S T → S.H p = none → T.H p = some (.lst xs) → T.F p = none → T.M p = false → RpL K T ds xs → k ds → Q (.ref p) T.H) ∧ XP K E S kx
theorem ec_call {wp : WP} {t : TA} (h : EA K E t Γ (fun ds => wp ds k kx) kx) : EC K E (tCall (spD K wp) [] E t) Γ k kx := fun S0 S σ Q e q x =>
  h S0 S σ _ e (fun T vs ds g r w => by
    rw [List.append_nil]
    exact ⟨T, ds, k, kx, g.ok, rfl, r, w, fun U v d g2 r2 kd => q U v d (g.trans g2) r2 kd, x.gr g⟩) x
/-- what can't raise here -/
theorem ec_call0 {wp : WP} {t : TA} (h : EA K E t Γ (fun ds => wp ds k (fun _ _ => False)) kx) : EC K E (tCall (spD K wp) [] E0 t) Γ k kx := fun S0 S σ Q e q x =>
  h S0 S σ _ e (fun T vs ds g r w => by
    rw [List.append_nil]
    exact ⟨T, ds, k, _, g.ok, rfl, r, w, fun U v d g2 r2 kd => q U v d (g.trans g2) r2 kd, fun _ _ _ _ _ _ _ _ z => z.elim⟩) x
theorem en_call {wp : WPN} {t : TA} (h : EA K E t Γ (fun ds => wp ds kl kx) kx) : EN K E (tCall (spN K wp) [] E t) Γ kl kx := fun S0 S σ Q e q x =>
  h S0 S σ _ e (fun T vs ds g r w => by
    rw [List.append_nil]
    exact ⟨T, ds, kl, kx, g.ok, rfl, r, w, fun U p xs es g2 a b c d r2 kd => q U p xs es (g.trans g2) (g.new a) b c d r2 kd, x.gr g⟩) x
theorem en_call0 {wp : WPN} {t : TA} (h : EA K E t Γ (fun ds => wp ds kl (fun _ _ => False)) kx) : EN K E (tCall (spN K wp) [] E0 t) Γ kl kx := fun S0 S σ Q e q x =>
  h S0 S σ _ e (fun T vs ds g r w => by
    rw [List.append_nil]
    exact ⟨T, ds, kl, _, g.ok, rfl, r, w, fun U p xs es g2 a b c d r2 kd => q U p xs es (g.trans g2) (g.new a) b c d r2 kd, fun _ _ _ _ _ _ _ _ z => z.elim⟩) x
/-- the context at a def's entry -/
def start (n : Nat) (ds : List D) : Ctx := ds.map .dat ++ List.replicate (n - ds.length) .un
theorem env_start {N : List Str} {ds : List D} {vs : List V} (ok : S.Ok) (r : RpL K S ds vs) : EnvOk K S S (L2.start N vs) (start N.length ds) := by
  have hl := r.length
  refine ⟨ok, ?_, fun i d h => ?_, fun i es h => ?_, fun a b es fs l hab h1 => ?_⟩
  · unfold L2.start start
    simp [hl]
  · unfold start at h
    by_cases hi : i < ds.length
    · rw [List.getElem?_append_left (by simpa using hi), List.getElem?_map] at h
      cases q : ds[i]? with
      | none => rw [q] at h; cases h
      | some x =>
        rw [q] at h
        cases h
        obtain ⟨v, e, rv⟩ := r.get q
        refine ⟨v, ?_, rv⟩
        unfold L2.start
        rw [List.getElem?_append_left (by simpa [hl] using hi), List.getElem?_map, e]
        rfl
    · rw [List.getElem?_append_right (by simpa using hi), List.getElem?_replicate] at h
      split at h <;> cases h
  · unfold start at h
    by_cases hi : i < ds.length
    · rw [List.getElem?_append_left (by simpa using hi), List.getElem?_map] at h
      cases q : ds[i]? with
      | none => rw [q] at h; cases h
      | some x => rw [q] at h; cases h
    · rw [List.getElem?_append_right (by simpa using hi), List.getElem?_replicate] at h
      split at h <;> cases h
  · unfold start at h1
    by_cases hi : a < ds.length
    · rw [List.getElem?_append_left (by simpa using hi), List.getElem?_map] at h1
      cases q : ds[a]? with
      | none => rw [q] at h1; cases h1
      | some x => rw [q] at h1; cases h1
    · rw [List.getElem?_append_right (by simpa using hi), List.getElem?_replicate] at h1
      split at h1 <;> cases h1
end
section
variable {P : Program} {w : World} {K : PySem.W.Frag} {mg : Str → Option Value} {base : Heap}
/-- a def that raises nothing and returns data -/
theorem okD {x qual : Str} {st : Stmt} {f : Addr} {fd : FuncData} {N ps : List Str} {k : Nat} {wp : WP} (F : Fun K x qual st f fd) (S : FnScope N ps (defScope st)) (len : ∀ ds q kx, wp ds q kx → ds.length = ps.length)
    (body : ∀ (cdv : Value) (A : Around) (outer : List Env) (s : Shared) (H : Hp), Room k (A.deeper (envOfC qual (defScope st) s.heap.objs.size f cdv)) →
      ∃ t, PSs (cxOf CX0 P w K mg base N qual (defScope st) f cdv A outer s H E0).nox (defBody st) t ∧ ∀ ds q kx, wp ds q kx → SC K E0 t (start N.length ds) { nx := fun _ => q .non, rt := q, rn := fun es => q (.lst es) }) : FnOk P w K mg base CX0 (k + 1) f fd ps (spD K wp) := by
  refine F.ok S (fun vs H Q E h => ?_) (fun cdv A outer s H vs Q E hr h => ?_)
  · obtain ⟨T, ds, q, kx, _, _, r, hw, _⟩ := h
    rw [r.length]
    exact len ds q kx hw
  · obtain ⟨T, ds, q, kx, ok, eH, r, hw, hQ, hx⟩ := h
    subst eH
    obtain ⟨t, ht, hb⟩ := body cdv A outer s T.H hr
    refine ⟨t, ht, hb ds q kx hw T T _ _ (Gr.refl ok) (env_start ok r) ⟨fun U τ Δ g _ _ h => hQ U .non .non g (by unfold Rp; rfl) h, fun U v d g r h => hQ U v d g r h, fun U p xs es g a b c d r h => hQ ⟨upd U.F p (.lst xs), U.H, U.M⟩ _ (.lst es) (g.freeze a b d) (by
      unfold Rp
      exact ⟨p, xs, rfl, upd_same, r.mono (Le.freeze c)⟩) h, fun _ _ _ _ _ _ h => h.elim, fun _ _ _ _ _ _ h => h.elim, fun _ _ _ _ _ _ _ _ h => h.elim⟩⟩
/-- .. and returns a new list -/
theorem okN {x qual : Str} {st : Stmt} {f : Addr} {fd : FuncData} {N ps : List Str} {k : Nat} {wp : WPN} (F : Fun K x qual st f fd) (S : FnScope N ps (defScope st)) (len : ∀ ds q kx, wp ds q kx → ds.length = ps.length)
    (body : ∀ (cdv : Value) (A : Around) (outer : List Env) (s : Shared) (H : Hp), Room k (A.deeper (envOfC qual (defScope st) s.heap.objs.size f cdv)) →
      ∃ t, PSs (cxOf CX0 P w K mg base N qual (defScope st) f cdv A outer s H E0).nox (defBody st) t ∧ ∀ ds q kx, wp ds q kx → SC K E0 t (start N.length ds) { rn := q }) : FnOk P w K mg base CX0 (k + 1) f fd ps (spN K wp) := by
  refine F.ok S (fun vs H Q E h => ?_) (fun cdv A outer s H vs Q E hr h => ?_)
  · obtain ⟨T, ds, q, kx, _, _, r, hw, _⟩ := h
    rw [r.length]
    exact len ds q kx hw
  · obtain ⟨T, ds, q, kx, ok, eH, r, hw, hQ, hx⟩ := h
    subst eH
    obtain ⟨t, ht, hb⟩ := body cdv A outer s T.H hr
    refine ⟨t, ht, hb ds q kx hw T T _ _ (Gr.refl ok) (env_start ok r) ⟨fun U τ Δ g _ _ h => h.elim, fun U v d g r h => h.elim, fun U p xs es g a b c d r h => hQ U p xs es g a b c d r h, fun _ _ _ _ _ _ h => h.elim, fun _ _ _ _ _ _ h => h.elim, fun _ _ _ _ _ _ _ _ h => h.elim⟩⟩
end
end Z

namespace Z
open PySem PySem.Spec PyProof.Rows L2
abbrev F0 : Addr → D → Prop := fun _ _ => False
theorem xp0 {K : PySem.W.Frag} {E : XK} {S : Wd} : XP K E S F0 := fun _ _ _ _ _ _ _ _ h => h.elim
theorem Le.chg (U : Wd) (p : Addr) (o : HO) : Le U ⟨U.F, upd U.H p o, U.M⟩ := ⟨fun _ _ e => e, fun _ e => e⟩
/-! ### what is walked -/
structure Walk (K : PySem.W.Frag) (T : Wd) (J : It) (ds : List D) : Prop where
  go : ∀ (U : Wd) i, U.Ok → Le T U → i < ds.length → J.go i U.H
  yld : ∀ (U : Wd) i x H', U.Ok → Le T U → i < ds.length → J.yld i U.H x H' → ∃ (U' : Wd) (d : D), U'.H = H' ∧ Gr U U' ∧ ds[i]? = some d ∧ Rp K U' d x
  stop : ∀ (U : Wd) i, U.Ok → Le T U → ds.length ≤ i → J.stop i U.H
section
variable (K : PySem.W.Frag) (E : XK)
def EI (wi : TI) (Γ : Ctx) (k : List D → Prop) (kx : Addr → D → Prop) : Prop := ∀ (S0 S : Wd) (σ : L2.St) (R : It → Hp → Prop), EnvOk K S0 S σ Γ → (∀ (T : Wd) J ds, Gr S T → Walk K T J ds → k ds → R J T.H) → XP K E S kx → wi σ S.H R
end
section
variable {K : PySem.W.Frag} {E : XK} {S0 S T : Wd} {te ta tb tc tl : TE} {tt uu : TT} {t u : TS} {Γ : Ctx} {k k' : D → Prop} {kx : Addr → D → Prop} {P : Po} {kl : List D → Prop} {al : TA}
theorem EI.mono {wi : TI} {k k' : List D → Prop} (h : EI K E wi Γ k kx) (hk : ∀ d, k d → k' d) : EI K E wi Γ k' kx := fun S0 S σ Q e q x => h S0 S σ Q e (fun T J ds g w kd => q T J ds g w (hk ds kd)) x
theorem walk_list {a : Addr} {xs : List V} {ds : List D} (f : T.F a = some (.lst xs)) (r : RpL K T ds xs) : Walk K T (Itl K a) ds := by
  refine ⟨fun U i ok l hi => ?_, fun U i x H' ok l hi y => ?_, fun U i ok l hi => ?_⟩
  · have hx : i < xs.length := by rw [r.length]; exact hi
    exact ⟨xs, xs[i], SqL.of (ok.sub _ _ (l.fz _ _ f)), List.getElem?_eq_getElem hx⟩
  · obtain ⟨rfl, hy⟩ := y
    have q := hy xs (SqL.of (ok.sub _ _ (l.fz _ _ f)))
    obtain ⟨d, e, rd⟩ := r.getV q
    exact ⟨U, d, rfl, Gr.refl ok, e, rd.mono l⟩
  · exact ⟨xs, SqL.of (ok.sub _ _ (l.fz _ _ f)), by rw [r.length]; exact hi⟩
theorem ei_list (h : EC K E tl Γ (fun d => ∃ ds, d = .lst ds ∧ kl ds) kx) : EI K E (iList K tl) Γ kl kx := fun S0 S σ R e q x =>
  h S0 S σ _ e (fun T v d g r ⟨ds, ed, kd⟩ => by
    subst ed
    unfold Rp at r
    obtain ⟨a, xs, rfl, f, r⟩ := r
    exact ⟨a, rfl, ⟨xs, SqL.of (g.ok.sub _ _ f)⟩, q T _ ds g (walk_list f r) kd⟩) x
theorem walk_scr {a : Addr} {ns : List Int} (f : SqL K T.F a (ns.map V.int)) : Walk K T (Itl K a) (ns.map D.int) := by
  refine ⟨fun U i ok l hi => ?_, fun U i x H' ok l hi y => ?_, fun U i ok l hi => ?_⟩
  · have hx : i < (ns.map V.int).length := by simpa using hi
    exact ⟨_, _, sql_mono ok.sub (sql_mono l.fz f), List.getElem?_eq_getElem hx⟩
  · obtain ⟨rfl, hy⟩ := y
    have q := hy _ (sql_mono ok.sub (sql_mono l.fz f))
    rw [List.getElem?_map] at q
    cases h : ns[i]? with
    | none => rw [h] at q; cases q
    | some n =>
      rw [h] at q
      cases q
      refine ⟨U, .int n, rfl, Gr.refl ok, ?_, by unfold Rp; rfl⟩
      rw [List.getElem?_map, h]
      rfl
  · exact ⟨_, sql_mono ok.sub (sql_mono l.fz f), by simpa using hi⟩
theorem ei_tup (h : EC K E tl Γ (fun d => ∃ ds, d = .tup ds ∧ kl ds) kx) : EI K E (iTup K tl) Γ kl kx := fun S0 S σ R e q x =>
  h S0 S σ _ e (fun T v d g r ⟨ds, ed, kd⟩ => by
    subst ed
    unfold Rp at r
    obtain ⟨a, xs, rfl, f, r⟩ := r
    refine ⟨a, rfl, ⟨xs, sqt_mono g.ok.sub f⟩, q T _ ds g ⟨fun U i ok l hi => ?_, fun U i x H' ok l hi y => ?_, fun U i ok l hi => ?_⟩ kd⟩
    · have hx : i < xs.length := by rw [r.length]; exact hi
      exact ⟨xs, xs[i], sqt_mono ok.sub (sqt_mono l.fz f), List.getElem?_eq_getElem hx⟩
    · obtain ⟨rfl, hy⟩ := y
      have q := hy xs (sqt_mono ok.sub (sqt_mono l.fz f))
      obtain ⟨d, e, rd⟩ := r.getV q
      exact ⟨U, d, rfl, Gr.refl ok, e, rd.mono l⟩
    · exact ⟨xs, sqt_mono ok.sub (sqt_mono l.fz f), by rw [r.length]; exact hi⟩) x
theorem walk_range {lo : Int} {n : Nat} : Walk K T (Itr lo n) ((List.range n).map fun i : Nat => D.int (lo + i)) := by
  refine ⟨fun U i ok l hi => ?_, fun U i x H' ok l hi y => ?_, fun U i ok l hi => ?_⟩
  · have h : i < n := by simpa using hi
    exact h
  · obtain ⟨rfl, rfl⟩ := y
    have h : i < n := by simpa using hi
    refine ⟨U, .int (lo + i), rfl, Gr.refl ok, ?_, by unfold Rp; rfl⟩
    rw [List.getElem?_map, List.getElem?_range h]
    rfl
  · have h : n ≤ i := by simpa using hi
    exact h
theorem ei_range1 (h : EA K E al Γ (fun l => ∃ n : Int, l = [.int n] ∧ (-(2 ^ 62) ≤ n ∧ n < 2 ^ 62) ∧ kl ((List.range n.toNat).map fun i : Nat => D.int (0 + i))) kx) : EI K E (iRng1 al) Γ kl kx := fun S0 S σ R e q x =>
  h S0 S σ _ e (fun T vs l g r ⟨n, el, hb, kd⟩ => by
    subst el
    obtain ⟨y, ys, rfl, r1, r2⟩ := r.cons_inv
    cases r2.nil_inv
    exact ⟨n, by rw [r1.int], hb.1, hb.2, q T _ _ g walk_range kd⟩) x
theorem ei_range2 (h : EA K E al Γ (fun l => ∃ m n : Int, l = [.int m, .int n] ∧ (-(2 ^ 62) ≤ m ∧ m < 2 ^ 62 ∧ -(2 ^ 62) ≤ n ∧ n < 2 ^ 62) ∧ kl ((List.range (n - m).toNat).map fun i : Nat => D.int (m + i))) kx) : EI K E (iRng2 al) Γ kl kx := fun S0 S σ R e q x =>
  h S0 S σ _ e (fun T vs l g r ⟨m, n, el, hb, kd⟩ => by
    subst el
    obtain ⟨y, ys, rfl, r1, r2⟩ := r.cons_inv
    obtain ⟨z, zs, rfl, r3, r4⟩ := r2.cons_inv
    cases r4.nil_inv
    exact ⟨m, n, by rw [r1.int, r3.int], hb, q T _ _ g walk_range kd⟩) x
/-- a pair that is made on the way -/
theorem pair_new {U : Wd} {p : Addr} {x y : V} {d e : D} (ok : U.Ok) (hn : U.H p = none) (r1 : Rp K U d x) (r2 : Rp K U e y) : ∃ U' : Wd, U'.H = upd U.H p (.tup [x, y]) ∧ Gr U U' ∧ Rp K U' (.tup [d, e]) (.ref p) := by
  have g := Gr.lay ok hn (.tup [x, y])
  refine ⟨_, rfl, g, ?_⟩
  unfold Rp
  exact ⟨p, [x, y], rfl, SqT.of upd_same, RpL.cons (r1.mono g.le) (RpL.cons (r2.mono g.le) RpL.nil)⟩
theorem ei_enum (h : EA K E al Γ (fun l => ∃ ds, l = [.lst ds] ∧ kl (ds.zipIdx.map fun p => D.tup [.int p.2, p.1])) kx) : EI K E (iEnum K al) Γ kl kx := fun S0 S σ R e q x =>
  h S0 S σ _ e (fun T vs l g r ⟨ds, el, kd⟩ => by
    subst el
    obtain ⟨y, ys, rfl, r1, r2⟩ := r.cons_inv
    cases r2.nil_inv
    unfold Rp at r1
    obtain ⟨a, xs, rfl, f, r⟩ := r1
    have hl := r.length
    refine ⟨a, xs, rfl, SqL.of (g.ok.sub _ _ f), q T _ _ g ⟨fun U i ok l hi => ?_, fun U i x H' ok l hi y => ?_, fun U i ok l hi => ?_⟩ kd⟩
    · have hx : i < xs.length := by
        rw [hl]
        simpa using hi
      exact ⟨xs, xs[i], SqL.of (ok.sub _ _ (l.fz _ _ f)), List.getElem?_eq_getElem hx⟩
    · obtain ⟨p, v, rfl, hn, rfl, hy⟩ := y
      have q := hy xs (SqL.of (ok.sub _ _ (l.fz _ _ f)))
      obtain ⟨d, e, rd⟩ := r.getV q
      obtain ⟨U', e1, g1, r1⟩ := pair_new (K := K) (d := .int (i : Nat)) (e := d) (x := .int (i : Nat)) ok hn (by unfold Rp; rfl) (rd.mono l)
      refine ⟨U', _, e1, g1, ?_, r1⟩
      rw [List.getElem?_map, List.getElem?_zipIdx, e]
      simp
    · exact ⟨xs, SqL.of (ok.sub _ _ (l.fz _ _ f)), by
        rw [hl]
        simpa using hi⟩) x
theorem ei_zip (h : EA K E al Γ (fun l => ∃ ds es, l = [.lst ds, .lst es] ∧ kl ((ds.zip es).map fun p => D.tup [p.1, p.2])) kx) : EI K E (iZip K al) Γ kl kx := fun S0 S σ R e q x =>
  h S0 S σ _ e (fun T vs l g r ⟨ds, es, el, kd⟩ => by
    subst el
    obtain ⟨y, ys, rfl, r1, r2⟩ := r.cons_inv
    obtain ⟨z, zs, rfl, r3, r4⟩ := r2.cons_inv
    cases r4.nil_inv
    unfold Rp at r1 r3
    obtain ⟨a, xs, rfl, f, rx⟩ := r1
    obtain ⟨b, ys, rfl, f', r'⟩ := r3
    have hl := rx.length
    have hl' := r'.length
    have hq : ∀ {U : Wd}, U.Ok → Le T U → SqL K U.H a xs := fun ok l => SqL.of (ok.sub _ _ (l.fz _ _ f))
    have hq' : ∀ {U : Wd}, U.Ok → Le T U → SqL K U.H b ys := fun ok l => SqL.of (ok.sub _ _ (l.fz _ _ f'))
    refine ⟨a, b, xs, ys, rfl, SqL.of (g.ok.sub _ _ f), SqL.of (g.ok.sub _ _ f'), q T _ _ g ⟨fun U i ok l hi => ?_, fun U i x H' ok l hi y => ?_, fun U i ok l hi => ?_⟩ kd⟩
    · have hm : i < min ds.length es.length := by simpa using hi
      have hx : i < xs.length := by omega
      have hy : i < ys.length := by omega
      exact ⟨xs, ys, xs[i], ys[i], hq ok l, hq' ok l, List.getElem?_eq_getElem hx, List.getElem?_eq_getElem hy⟩
    · obtain ⟨p, v, w, rfl, hn, rfl, h1, h2⟩ := y
      obtain ⟨d, e, rd⟩ := rx.getV (h1 xs (hq ok l))
      obtain ⟨d', e', rd'⟩ := r'.getV (h2 ys (hq' ok l))
      obtain ⟨U', e1, g1, r1⟩ := pair_new ok hn (rd.mono l) (rd'.mono l)
      refine ⟨U', _, e1, g1, ?_, r1⟩
      have hz : (ds.zip es)[i]? = some (d, d') := List.getElem?_zip_eq_some.mpr ⟨e, e'⟩
      rw [List.getElem?_map, hz]
      rfl
    · have hm : min ds.length es.length ≤ i := by simpa using hi
      exact ⟨xs, ys, hq ok l, hq' ok l, by omega⟩) x

/-! ### for, while -/
theorem sc_for {wi : TI} {g : TG} (h : EI K E wi Γ (fun ds => ∃ Iv : Nat → Ctx → Prop, Iv 0 Γ ∧ (∀ (i : Nat) d Δ, ds[i]? = some d → Iv i Δ → GC K g d Δ fun Δ' => SC K E t Δ' { P with nx := Iv (i + 1), ct := Iv (i + 1), bk := P.nx }) ∧ ∀ Δ, Iv ds.length Δ → P.nx Δ) P.kx) :
    SC K E (tFor wi g t) Γ P := fun S0 S σ D gg e G =>
  h S0 S σ _ e (fun T J ds g2 w ⟨Iv, h0, hs, hd⟩ => by
    refine ⟨fun i m σ' H => ∃ (U : Wd) (Δ : Ctx), U.H = H ∧ Gr S0 U ∧ Le T U ∧ EnvOk K S0 U σ' Δ ∧ i ≤ ds.length ∧ m = ds.length - i ∧ Iv i Δ, ⟨_, T, Γ, rfl, gg.trans g2, Le.refl T, e.gr g2, Nat.zero_le _, rfl, h0⟩, ?_⟩
    rintro i m σ' H ⟨U, Δ, rfl, gU, lU, eU, hi, rfl, hI⟩
    by_cases hlt : i < ds.length
    · refine .inr ⟨w.go U i gU.ok lU hlt, fun σ' H => ∃ (U : Wd) (Δ : Ctx), U.H = H ∧ Gr S0 U ∧ Le T U ∧ EnvOk K S0 U σ' Δ ∧ Iv (i + 1) Δ, ?_, fun x H' y => ?_⟩
      · rintro σ2 H2 ⟨U2, Δ2, e2, a, b, c, d⟩
        exact ⟨ds.length - (i + 1), by omega, U2, Δ2, e2, a, b, c, hlt, rfl, d⟩
      · obtain ⟨U1, d, rfl, g1, ed, rd⟩ := w.yld U i x H' gU.ok lU hlt y
        refine hs i d Δ ed hI S0 U1 σ' x _ (eU.gr g1) rd fun τ Δ2 e2 h2 => ?_
        have l1 : Le T U1 := lU.trans g1.le
        exact h2 S0 U1 τ _ (gU.trans g1) e2 ⟨fun W τ' Δ' a b c m => ⟨W, Δ', rfl, a, l1.trans b, c, m⟩, G.rt, G.rn, fun W τ' Δ' a b c m => G.nx W τ' Δ' a ((g2.le.trans l1).trans b) c m, fun W τ' Δ' a b c m => ⟨W, Δ', rfl, a, l1.trans b, c, m⟩, G.kx⟩
    · have ei : i = ds.length := by omega
      subst ei
      exact .inl ⟨w.stop U _ gU.ok lU (Nat.le_refl _), G.nx U σ' Δ gU (g2.le.trans lU) eU (hd Δ hI)⟩) (G.kx.gr gg)
theorem sc_while (Iv : Nat → Ctx → Prop) {m0 : Nat} (h0 : Iv m0 Γ) (h : ∀ m Δ, Iv m Δ → ET K E tt Δ (fun b => if b = true then SC K E t Δ { P with nx := fun Δ' => ∃ m', m' < m ∧ Iv m' Δ', ct := fun Δ' => ∃ m', m' < m ∧ Iv m' Δ', bk := P.nx } else P.nx Δ) P.kx) :
    SC K E (tWhile tt t) Γ P := fun S0 S σ D gg e G => by
  refine ⟨fun m σ' H => ∃ (U : Wd) (Δ : Ctx), U.H = H ∧ Gr S0 U ∧ Le S U ∧ EnvOk K S0 U σ' Δ ∧ Iv m Δ, ⟨m0, S, Γ, rfl, gg, Le.refl S, e, h0⟩, ?_⟩
  rintro m σ' H ⟨U, Δ, rfl, gU, lU, eU, hI⟩
  refine h m Δ hI S0 U σ' _ eU (fun T b g2 kd => ?_) (G.kx.gr gU)
  cases b with
  | true =>
    have h2 : SC K E t Δ { P with nx := fun Δ' => ∃ m', m' < m ∧ Iv m' Δ', ct := fun Δ' => ∃ m', m' < m ∧ Iv m' Δ', bk := P.nx } := kd
    show ∃ N : L2.St → Hp → Prop, _
    refine ⟨fun σ' H => ∃ (U : Wd) (Δ : Ctx), U.H = H ∧ Gr S0 U ∧ Le S U ∧ EnvOk K S0 U σ' Δ ∧ ∃ m', m' < m ∧ Iv m' Δ, ?_, ?_⟩
    · rintro σ2 H2 ⟨U2, Δ2, e2, a, b, c, m', hm, hI'⟩
      exact ⟨m', hm, U2, Δ2, e2, a, b, c, hI'⟩
    · have l1 : Le S T := lU.trans g2.le
      exact h2 S0 T σ' _ (gU.trans g2) (eU.gr g2) ⟨fun W τ' Δ' a b c m => ⟨W, Δ', rfl, a, l1.trans b, c, m⟩, G.rt, G.rn, fun W τ' Δ' a b c m => G.nx W τ' Δ' a (l1.trans b) c m, fun W τ' Δ' a b c m => ⟨W, Δ', rfl, a, l1.trans b, c, m⟩, G.kx⟩
  | false =>
    have h2 : P.nx Δ := kd
    show D.nx σ' T.H
    exact G.nx T σ' Δ (gU.trans g2) (lU.trans g2.le) (eU.gr g2) h2

/-! ### comprehensions -/
def wipeC (Γ : Ctx) : List Nat → Ctx
  | [] => Γ
  | v :: vs => (wipeC Γ vs).set v .un
theorem env_wipe {σ : L2.St} (e : EnvOk K S0 S σ Γ) : ∀ vs : List Nat, EnvOk K S0 S (wipe σ vs) (wipeC Γ vs)
  | [] => e
  | v :: vs => (env_wipe e vs).setUn
theorem wipe_in {σ : L2.St} {i : Nat} : ∀ {vs : List Nat}, i ∈ vs → (wipe σ vs)[i]? = if i < σ.length then some none else none
  | v :: vs, h => by
    unfold wipe
    by_cases hv : v = i
    · subst hv
      by_cases hl : v < σ.length
      · rw [List.getElem?_set_self (by rw [wipe_length]; exact hl), if_pos hl]
      · rw [if_neg hl, List.getElem?_eq_none (by rw [List.length_set, wipe_length]; omega)]
    · rw [List.getElem?_set_ne hv]
      have h' : i ∈ vs := by
        rcases List.mem_cons.mp h with z | z
        · exact absurd z.symm hv
        · exact z
      exact wipe_in h'
theorem wipe_out' {σ : L2.St} {i : Nat} : ∀ {vs : List Nat}, i ∉ vs → (wipe σ vs)[i]? = σ[i]?
  | [], _ => rfl
  | v :: vs, h => by
    unfold wipe
    have hv : v ≠ i := fun z => h (by rw [z]; exact List.mem_cons_self)
    rw [List.getElem?_set_ne hv]
    exact wipe_out' fun z => h (List.mem_cons_of_mem _ z)
theorem wipe_set {τ : L2.St} {i : Nat} {x : Option V} {vs : List Nat} (h : i ∈ vs) : wipe (τ.set i x) vs = wipe τ vs := by
  apply List.ext_getElem?
  intro j
  by_cases hj : j ∈ vs
  · rw [wipe_in hj, wipe_in hj, List.length_set]
  · rw [wipe_out' hj, wipe_out' hj, List.getElem?_set_ne fun z : i = j => hj (z ▸ h)]
theorem wipe_idem {τ : L2.St} {vs : List Nat} : wipe (wipe τ vs) vs = wipe τ vs := by
  apply List.ext_getElem?
  intro j
  by_cases hj : j ∈ vs
  · rw [wipe_in hj, wipe_in hj, wipe_length]
  · rw [wipe_out' hj]
def GW (K : PySem.W.Frag) (vs : List Nat) (g : TG) (d : D) (Γ : Ctx) (kc : Ctx → Prop) : Prop := ∀ (S0 S : Wd) (σ : L2.St) (v : V) (Q : L2.St → Hp → Prop), EnvOk K S0 S σ Γ → Rp K S d v → (∀ τ Δ, wipe τ vs = wipe σ vs → EnvOk K S0 S τ Δ → kc Δ → Q τ S.H) → g v σ S.H Q
def GWs (K : PySem.W.Frag) (vs : List Nat) (g : TGs) (ds : List D) (Γ : Ctx) (kc : Ctx → Prop) : Prop := ∀ (S0 S : Wd) (σ : L2.St) (us : List V) (Q : L2.St → Hp → Prop), EnvOk K S0 S σ Γ → RpL K S ds us → (∀ τ Δ, wipe τ vs = wipe σ vs → EnvOk K S0 S τ Δ → kc Δ → Q τ S.H) → g us σ S.H Q
variable {kc : Ctx → Prop} {vs : List Nat}
theorem gw_name {i : Nat} {d : D} (hi : i ∈ vs) (h : kc (Γ.set i (.dat d))) : GW K vs (gName i) d Γ kc := fun S0 S σ v Q e r q => q _ _ (wipe_set hi) (e.setDat r) h
theorem gws_nil (h : kc Γ) : GWs K vs gNil [] Γ kc := fun S0 S σ us Q e r q => ⟨r.nil_inv, q σ Γ rfl e h⟩
theorem gws_cons {g : TG} {gs : TGs} {d : D} {ds : List D} (h : GW K vs g d Γ (fun Δ => GWs K vs gs ds Δ kc)) : GWs K vs (gCons g gs) (d :: ds) Γ kc := fun S0 S σ us Q e r q => by
  obtain ⟨y, ys, rfl, r1, r2⟩ := r.cons_inv
  exact ⟨y, ys, rfl, h S0 S σ y _ e r1 fun τ Δ w e2 h2 => h2 S0 S τ ys Q e2 r2 fun τ' Δ' w' => q τ' Δ' (w'.trans w)⟩
theorem gw_tup {n : Nat} {gs : TGs} {ds : List D} (hn : ds.length = n) (h : GWs K vs gs ds Γ kc) : GW K vs (gTup K n gs) (.tup ds) Γ kc := fun S0 S σ v Q e r q => by
  unfold Rp at r
  obtain ⟨a, xs, rfl, f, r⟩ := r
  exact ⟨a, xs, rfl, sqt_mono e.ok.sub f, by rw [r.length]; exact hn, h S0 S σ xs Q e r q⟩
/-- a comprehension by what holds of the list so far -/
theorem en_lcI {wi : TI} {g : TG} (h : EI K E wi Γ (fun ds => ds.length ≤ 1000000 ∧ ∃ Iv : Nat → List D → Prop, Iv 0 [] ∧ (∀ (i : Nat) d acc, ds[i]? = some d → Iv i acc → acc.length ≤ i → GW K vs g d (wipeC Γ vs) fun Δ =>
      ET K E0 tt Δ (fun b => if b = true then EC K E0 te Δ (fun y => Iv (i + 1) (acc ++ [y])) F0 else Iv (i + 1) acc) F0) ∧ ∀ acc, Iv ds.length acc → kl acc) kx) : EN K E (tLc wi g tt te vs) Γ kl kx := fun S0 S σ Q e q x =>
  h S0 S σ _ e (fun T J ds g2 w ⟨hz, Iv, h0, hs, hd⟩ Dp hn => by
    have eT := env_wipe (e.gr g2) vs
    have fresh := Gr.layO g2.ok hn (.lst [])
    refine ⟨fun i m H => ∃ (U : Wd) (acc : List D) (xs : List V), U.H = H ∧ Gr T U ∧ U.H Dp = some (.lst xs) ∧ U.F Dp = none ∧ U.M Dp = false ∧ RpL K U acc xs ∧ i ≤ ds.length ∧ m = ds.length - i ∧ acc.length ≤ i ∧ Iv i acc,
      ⟨_, ⟨T.F, upd T.H Dp (.lst []), T.M⟩, [], [], rfl, fresh, upd_same, g2.ok.fnone hn, g2.ok.mnone hn, RpL.nil, Nat.zero_le _, rfl, Nat.le_refl _, h0⟩, ?_⟩
    rintro i m H ⟨U, acc, xs, rfl, gU, hD, hF, hM, rA, hi, rfl, ha, hI⟩
    by_cases hlt : i < ds.length
    · refine .inr ⟨w.go U i gU.ok gU.le hlt, fun H => ∃ (U : Wd) (acc : List D) (xs : List V), U.H = H ∧ Gr T U ∧ U.H Dp = some (.lst xs) ∧ U.F Dp = none ∧ U.M Dp = false ∧ RpL K U acc xs ∧ acc.length ≤ i + 1 ∧ Iv (i + 1) acc, ?_, fun y H' hy => ?_⟩
      · rintro H2 ⟨U2, acc2, xs2, e2, a, b, c, d, f, l, n⟩
        exact ⟨ds.length - (i + 1), by omega, U2, acc2, xs2, e2, a, b, c, d, f, hlt, rfl, l, n⟩
      · obtain ⟨U1, d, rfl, g1, ed, rd⟩ := w.yld U i y H' gU.ok gU.le hlt hy
        have gT1 := gU.trans g1
        refine hs i d acc ed hI ha S0 U1 (wipe σ vs) y _ (eT.gr gT1) rd fun τ Δ hw e2 h2 => ⟨hw.trans wipe_idem, ?_⟩
        refine h2 S0 U1 τ _ e2 (fun U3 b g3 kd => ?_) xp0
        have g13 := g1.trans g3
        have gT3 := gU.trans g13
        cases b with
        | true =>
          have h5 : EC K E0 te Δ (fun y => Iv (i + 1) (acc ++ [y])) F0 := kd
          show te τ U3.H _
          refine h5 S0 U3 τ _ (e2.gr g3) (fun U4 y4 d4 g4 r4 k4 => ?_) xp0
          have g14 := g13.trans g4
          have gT4 := gT3.trans g4
          have r5 : RpL K U4 (acc ++ [d4]) (xs ++ [y4]) := RpL.append (rA.mono g14.le) (RpL.cons r4 RpL.nil)
          have hF4 := g14.fr _ _ hD hF
          have hM4 : U4.M Dp = false := by rw [g14.mu _ _ hD, hM]
          refine ⟨xs, g14.hp _ _ hD hM, by rw [rA.length]; exact bigL (by omega), ⟨U4.F, upd U4.H Dp (.lst (xs ++ [y4])), U4.M⟩, acc ++ [d4], xs ++ [y4], rfl, gT4.change hn hF4 hM4 _, upd_same, hF4, hM4, r5.mono (Le.chg U4 Dp _), ?_, k4⟩
          rw [List.length_append]
          exact Nat.add_le_add_right ha 1
        | false =>
          have h5 : Iv (i + 1) acc := kd
          refine ⟨U3, acc, xs, rfl, gT3, g13.hp _ _ hD hM, g13.fr _ _ hD hF, by rw [g13.mu _ _ hD, hM], rA.mono g13.le, by omega, h5⟩
    · have ei : i = ds.length := by omega
      subst ei
      exact .inl ⟨w.stop U _ gU.ok gU.le (Nat.le_refl _), q U Dp xs acc (g2.trans gU) (g2.new hn) hD hF hM rA (hd acc hI)⟩) x
theorem take_succ {α : Type} {xs : List α} {i : Nat} {x : α} (h : xs[i]? = some x) : xs.take (i + 1) = xs.take i ++ [x] := by rw [List.take_add_one, h]; rfl
/-- .. whose test and element are functions of the item -/
theorem en_lc {wi : TI} {g : TG} (h : EI K E wi Γ (fun ds => ds.length ≤ 1000000 ∧ ∃ (α : Type) (xs : List α) (enc : α → D) (p : α → Bool) (f : α → D), ds = xs.map enc ∧ (∀ x ∈ xs, GW K vs g (enc x) (wipeC Γ vs) fun Δ =>
      ET K E0 tt Δ (fun b => b = p x ∧ (b = true → EC K E0 te Δ (fun y => y = f x) F0)) F0) ∧ kl ((xs.filter p).map f)) kx) : EN K E (tLc wi g tt te vs) Γ kl kx := by
  refine en_lcI (EI.mono h ?_)
  rintro ds ⟨hz, α, xs, enc, p, f, rfl, hs, hk⟩
  refine ⟨hz, fun i acc => acc = ((xs.take i).filter p).map f, rfl, ?_, fun acc ea => ?_⟩
  · rintro i d acc ed rfl ha
    rw [List.getElem?_map] at ed
    cases hx : xs[i]? with
    | none => rw [hx] at ed; cases ed
    | some x =>
      rw [hx] at ed
      cases ed
      intro S0 S σ v Q e r q
      refine hs x (List.mem_of_getElem? hx) S0 S σ v Q e r fun τ Δ hw e2 h2 => q τ Δ hw e2 (h2.mono ?_)
      rintro b ⟨rfl, h3⟩
      cases hp : p x with
      | true =>
        show EC K E0 te Δ _ F0
        refine (h3 hp).mono ?_
        rintro y rfl
        rw [take_succ hx, List.filter_append, List.map_append]
        simp [hp]
      | false =>
        show ((xs.take i).filter p).map f = ((xs.take (i + 1)).filter p).map f
        rw [take_succ hx, List.filter_append, List.map_append]
        simp [hp]
  · subst ea
    rw [List.length_map, List.take_length]
    exact hk
theorem et_yes {kb : Bool → Prop} (h : kb true) : ET K E tYes Γ kb kx := fun S0 S σ Q e q x => q S true (Gr.refl e.ok) h
theorem filter_yes {α : Type} (xs : List α) : xs.filter (fun _ => true) = xs := by simp
/-- [e for x in xs] -/
theorem en_map {wi : TI} {g : TG} (h : EI K E wi Γ (fun ds => ds.length ≤ 1000000 ∧ ∃ (α : Type) (xs : List α) (enc : α → D) (f : α → D), ds = xs.map enc ∧ (∀ x ∈ xs, GW K vs g (enc x) (wipeC Γ vs) fun Δ => EC K E0 te Δ (fun y => y = f x) F0) ∧ kl (xs.map f)) kx) : EN K E (tLc wi g tYes te vs) Γ kl kx := by
  refine en_lc (EI.mono h ?_)
  rintro ds ⟨hz, α, xs, enc, f, e, hs, hk⟩
  refine ⟨hz, α, xs, enc, fun _ => true, f, e, fun x hx S0 S σ v Q e r q => hs x hx S0 S σ v Q e r fun τ Δ hw e2 h2 => q τ Δ hw e2 (et_yes ⟨rfl, fun _ => h2⟩), ?_⟩
  rw [filter_yes]
  exact hk
end
end Z

namespace Z
open PySem PySem.Spec PyProof.Rows L2
/-! ### built-ins by name -/
def zLen (K : PySem.W.Frag) : List V → Hp → VK → Prop := fun xs H Q => ∃ x n, xs = [x] ∧ LenV K x H n ∧ Q (.int (n : Nat)) H
def zAbs : List V → Hp → VK → Prop := fun xs H Q => ∃ i : Int, xs = [.int i] ∧ Q (.int (if i < 0 then -i else i)) H
def zMax2 : List V → Hp → VK → Prop := fun xs H Q => ∃ i j : Int, xs = [.int i, .int j] ∧ Q (.int (if j > i then j else i)) H
def zMin2 : List V → Hp → VK → Prop := fun xs H Q => ∃ i j : Int, xs = [.int i, .int j] ∧ Q (.int (if j < i then j else i)) H
def zList (K : PySem.W.Frag) : List V → Hp → VK → Prop := fun xs H Q => ∃ p ys, xs = [.ref p] ∧ (SqL K H p ys ∨ SqT K H p ys) ∧ ∀ l, H l = none → Q (.ref l) (upd H l (.lst ys))
def zAnyI (K : PySem.W.Frag) : List V → Hp → VK → Prop := fun vs H Q => ∃ (a : Addr) (ns : List Int), vs = [V.ref a] ∧ SqL K H a (ns.map V.int) ∧ Q (.bl (ns.any fun n => n != 0)) H
def zInt : List V → Hp → VK → Prop := fun xs H Q => (∃ i, xs = [.int i] ∧ Q (.int i) H) ∨ ∃ b : Bool, xs = [.bl b] ∧ Q (.int (if b then 1 else 0)) H
section
variable {X : Cx}
theorem cz_len : CallR X (.builtin "len") (zLen X.K) := call_len
theorem cz_abs : CallR X (.builtin "abs") zAbs := call_abs
theorem cz_max2 (hc : X.calm = true) : CallR X (.builtin "max") zMax2 := call_max2 hc
theorem cz_min2 (hc : X.calm = true) : CallR X (.builtin "min") zMin2 := call_min2 hc
theorem cz_list : CallR X (.type "list") (zList X.K) := call_list_of
theorem cz_int : CallR X (.type "int") zInt := call_int1
theorem truth_ints {prog : Program} {w : World} {A : Around} {ns : List Int} {its : List Value} (e : IntsAre its ns) :
    TruthOf prog w A (fun i v => its.toArray[i]? = some v) (fun i => (ns.map fun n => n != 0).getD i false) := fun i v s Q E hv hq => by
  have hv' : its[i]? = some v := by simpa using hv
  have key : ∀ {its : List Value} {ns : List Int}, IntsAre its ns → ∀ {i : Nat} {v : Value}, its[i]? = some v → ∃ n t, v = .int n t ∧ ns[i]? = some n := by
    intro its ns h
    induction h with
    | nil => intro i v h; simp at h
    | cons n t r ih =>
      intro i v h
      cases i with
      | zero => simp at h; exact ⟨n, t, h.symm, rfl⟩
      | succ i =>
        obtain ⟨m, u, e1, e2⟩ := ih (i := i) (v := v) (by simpa using h)
        exact ⟨m, u, e1, by simpa using e2⟩
  obtain ⟨n, t, rfl, hn⟩ := key e hv'
  have hg : (ns.map fun n => n != 0).getD i false = (n != 0) := by rw [List.getD_eq_getElem?_getD, List.getElem?_map, hn] <;> rfl
  have hq' : Q ((ns.map fun n => n != 0).getD i false) s := hq
  rw [hg] at hq'
  exact PySem.P.truthy_int hq'
theorem cz_anyI (hc : X.calm = true) : CallR X (.builtin "any") (zAnyI X.K) := by
  intro pins s σ H vs us Q I r h
  obtain ⟨a, ns, rfl, hs, q⟩ := h
  obtain ⟨its, rv, hl, _⟩ := I.list hs
  rw [Vals.ref1 r]
  have hb := rv.ints
  refine call_any_walk (iter_any hl.isList fun s₂ e2 st hne => ?_)
  subst e2
  refine ⟨_, _, _, _, _, _, _, rfl, Walks.list (A := X.A.in1) (I.ok.hd hc) _ a hne its.toArray, st, truth_ints hb, fun h' tk hk => ?_⟩
  refine ⟨.bl _, H, I.kept fun b o eo => hk b o (fun hmem => ?_) (Heap.get?_push_of_some _ eo), ?_, q⟩
  · rcases List.mem_cons.mp hmem with e1 | hmem
    · exact absurd (e1 ▸ Heap.lt_size eo) (Nat.lt_irrefl _)
    · cases hmem
  · show Value.bool _ = Value.bool _
    have el : its.length = ns.length := by
      have := rv.length
      simpa using this.symm
    have hr := any_range (ns.map fun n => n != 0)
    rw [List.length_map] at hr
    rw [List.size_toArray, el, hr, List.any_map]
    rfl
end
section
variable {K : PySem.W.Frag} {E : XK} {S0 S T : Wd} {te ta tb tc tl : TE} {tt uu : TT} {t u : TS} {Γ : Ctx} {k k' : D → Prop} {kx : Addr → D → Prop} {P : Po} {kl : List D → Prop} {al : TA}
/-- a built-in of one list -/
theorem ec_cb1 {r : List V → Hp → VK → Prop} (h : EL K E ta Γ (fun ds => ∀ (S : Wd) (Q : VK) p xs, S.Ok → S.H p = some (.lst xs) → RpL K S ds xs → (∀ (T : Wd) u d, Gr S T → Rp K T d u → k d → Q u T.H) → r [.ref p] S.H Q) kx) : EC K E (tCB r (tCons ta tNil)) Γ k kx := fun S0 S σ Q e q x =>
  h S0 S σ _ e (fun T p xs ds g hp hm r h2 => h2 T Q p xs g.ok hp r fun U u d g2 r2 kd => q U u d (g.trans g2) r2 kd) x
theorem en_cb1 {r : List V → Hp → VK → Prop} (h : EL K E ta Γ (fun ds => ∀ (S : Wd) (Q : VK) p xs, S.Ok → S.H p = some (.lst xs) → RpL K S ds xs → (∀ p ys es, S.H p = none → RpL K S es ys → kl es → Q (.ref p) (upd S.H p (.lst ys))) → r [.ref p] S.H Q) kx) : EN K E (tCB r (tCons ta tNil)) Γ kl kx := fun S0 S σ Q e q x =>
  h S0 S σ _ e (fun T p xs ds g hp hm r h2 => h2 T Q p xs g.ok hp r fun l ys es hn r2 kd => by
    have g2 := Gr.layO g.ok hn (.lst ys)
    exact q ⟨T.F, upd T.H l (.lst ys), T.M⟩ l ys es (g.trans g2) (g.new hn) upd_same (g.ok.fnone hn) (g.ok.mnone hn) (r2.mono g2.le) kd) x
/-- .. of data -/
theorem ec_cb {r : List V → Hp → VK → Prop} (h : EA K E al Γ (fun ds => ∀ (S : Wd) (Q : VK) vs, S.Ok → RpL K S ds vs → (∀ (T : Wd) u d, Gr S T → Rp K T d u → k d → Q u T.H) → r vs S.H Q) kx) : EC K E (tCB r al) Γ k kx := fun S0 S σ Q e q x =>
  h S0 S σ _ e (fun T vs ds g r h2 => h2 T Q vs g.ok r fun U u d g2 r2 kd => q U u d (g.trans g2) r2 kd) x
theorem rpi {S : Wd} {i : Int} : Rp K S (.int i) (.int i) := by unfold Rp; rfl
theorem rpb {S : Wd} {i : Bool} : Rp K S (.bl i) (.bl i) := by unfold Rp; rfl
theorem ec_len (h : EL K E ta Γ (fun ds => k (.int (ds.length : Nat))) kx) : EC K E (tCB (zLen K) (tCons ta tNil)) Γ k kx :=
  ec_cb1 (h.mono fun ds hk S Q p xs ok hp r q => ⟨.ref p, xs.length, rfl, .inl ⟨xs, SqL.of hp, rfl⟩, by rw [r.length]; exact q S _ _ (Gr.refl ok) rpi hk⟩)
theorem ec_lenD (h : EC K E ta Γ (fun d => match d with | .tup ds => k (.int (ds.length : Nat)) | .scr ns => k (.int (ns.length : Nat)) | .str z => z.length ≤ 1000000 ∧ k (.int (z.length : Nat)) | _ => False) kx) : EC K E (tCB (zLen K) (tCons ta tNil)) Γ k kx := by
  refine ec_cb (ea_cons (h.mono fun d hk => ea_nil ?_))
  intro S Q vs ok r q
  obtain ⟨y, ys, rfl, r1, r2⟩ := r.cons_inv
  cases r2.nil_inv
  cases d with
  | tup ds =>
    unfold Rp at r1
    obtain ⟨a, xs, rfl, f, r⟩ := r1
    exact ⟨.ref a, xs.length, rfl, .inr ⟨xs, sqt_mono ok.sub f, rfl⟩, by rw [r.length]; exact q S _ _ (Gr.refl ok) rpi hk⟩
  | scr ns =>
    unfold Rp at r1
    obtain ⟨a, rfl, f⟩ := r1
    exact ⟨.ref a, ns.length, rfl, .inl ⟨_, sql_mono ok.sub f, by simp⟩, q S _ _ (Gr.refl ok) rpi hk⟩
  | str z =>
    unfold Rp at r1
    subst r1
    exact ⟨.str z, z.length, rfl, ⟨big hk.1, rfl⟩, q S _ _ (Gr.refl ok) rpi hk.2⟩
  | _ => exact hk.elim
theorem ec_sum (h : EL K E ta Γ (fun ds => ∃ ns : List Int, ds = ns.map D.int ∧ k (.int ns.sum)) kx) : EC K E (tCB (rSum K) (tCons ta tNil)) Γ k kx :=
  ec_cb1 (h.mono fun ds ⟨ns, e, hk⟩ S Q p xs ok hp r q => by
    subst e
    rw [r.ints] at hp
    exact ⟨p, ns, rfl, SqL.of hp, q S _ _ (Gr.refl ok) rpi hk⟩)
theorem ec_max (h : EL K E ta Γ (fun ds => ∃ ns : List Int, ds = ns.map D.int ∧ 0 < ns.length ∧ ∀ m, m ∈ ns → (∀ y, y ∈ ns → y ≤ m) → k (.int m)) kx) : EC K E (tCB (rMax K) (tCons ta tNil)) Γ k kx :=
  ec_cb1 (h.mono fun ds ⟨ns, e, hl, hk⟩ S Q p xs ok hp r q => by
    subst e
    rw [r.ints] at hp
    exact ⟨p, ns, rfl, SqL.of hp, hl, fun m h1 h2 => q S _ _ (Gr.refl ok) rpi (hk m h1 h2)⟩)
theorem ec_min (h : EL K E ta Γ (fun ds => ∃ ns : List Int, ds = ns.map D.int ∧ 0 < ns.length ∧ ∀ m, m ∈ ns → (∀ y, y ∈ ns → m ≤ y) → k (.int m)) kx) : EC K E (tCB (rMin K) (tCons ta tNil)) Γ k kx :=
  ec_cb1 (h.mono fun ds ⟨ns, e, hl, hk⟩ S Q p xs ok hp r q => by
    subst e
    rw [r.ints] at hp
    exact ⟨p, ns, rfl, SqL.of hp, hl, fun m h1 h2 => q S _ _ (Gr.refl ok) rpi (hk m h1 h2)⟩)
theorem ec_any (h : EL K E ta Γ (fun ds => ∃ bs : List Bool, ds = bs.map D.bl ∧ k (.bl (bs.any id))) kx) : EC K E (tCB (rAny K) (tCons ta tNil)) Γ k kx :=
  ec_cb1 (h.mono fun ds ⟨ns, e, hk⟩ S Q p xs ok hp r q => by
    subst e
    rw [r.bls] at hp
    exact ⟨p, ns, rfl, SqL.of hp, q S _ _ (Gr.refl ok) rpb hk⟩)
theorem ec_all (h : EL K E ta Γ (fun ds => ∃ bs : List Bool, ds = bs.map D.bl ∧ k (.bl (bs.all id))) kx) : EC K E (tCB (rAll K) (tCons ta tNil)) Γ k kx :=
  ec_cb1 (h.mono fun ds ⟨ns, e, hk⟩ S Q p xs ok hp r q => by
    subst e
    rw [r.bls] at hp
    exact ⟨p, ns, rfl, SqL.of hp, q S _ _ (Gr.refl ok) rpb hk⟩)
theorem ec_anyI (h : EL K E ta Γ (fun ds => ∃ ns : List Int, ds = ns.map D.int ∧ k (.bl (ns.any fun n => n != 0))) kx) : EC K E (tCB (zAnyI K) (tCons ta tNil)) Γ k kx :=
  ec_cb1 (h.mono fun ds ⟨ns, e, hk⟩ S Q p xs ok hp r q => by
    subst e
    rw [r.ints] at hp
    exact ⟨p, ns, rfl, SqL.of hp, q S _ _ (Gr.refl ok) rpb hk⟩)
theorem en_sorted (h : EL K E ta Γ (fun ds => ∃ ns : List Int, ds = ns.map D.int ∧ ∀ ns' : List Int, ns'.Perm ns → ns'.Pairwise (· ≤ ·) → kl (ns'.map D.int)) kx) : EN K E (tCB (rSortedI K) (tCons ta tNil)) Γ kl kx :=
  en_cb1 (h.mono fun ds ⟨ns, e, hk⟩ S Q p xs ok hp r q => by
    subst e
    rw [r.ints] at hp
    exact ⟨p, ns, rfl, SqL.of hp, fun ns' l h1 h2 hn => q l _ _ hn (RpL.of_ints ns') (hk ns' h1 h2)⟩)
theorem en_list (h : EL K E ta Γ kl kx) : EN K E (tCB (zList K) (tCons ta tNil)) Γ kl kx :=
  en_cb1 (h.mono fun ds hk S Q p xs ok hp r q => ⟨p, xs, rfl, .inl (SqL.of hp), fun l hn => q l xs ds hn r hk⟩)
theorem ec_abs (h : EC K E ta Γ (fun d => ∃ i, d = .int i ∧ k (.int (if i < 0 then -i else i))) kx) : EC K E (tCB zAbs (tCons ta tNil)) Γ k kx := by
  refine ec_cb (ea_cons (h.mono fun d ⟨i, e, hk⟩ => ea_nil ?_))
  subst e
  intro S Q vs ok r q
  obtain ⟨y, ys, rfl, r1, r2⟩ := r.cons_inv
  cases r2.nil_inv
  exact ⟨i, by rw [r1.int], q S _ _ (Gr.refl ok) rpi hk⟩
theorem ec_max2 (h : EA K E al Γ (fun ds => ∃ i j : Int, ds = [.int i, .int j] ∧ k (.int (if j > i then j else i))) kx) : EC K E (tCB zMax2 al) Γ k kx := by
  refine ec_cb (h.mono fun ds ⟨i, j, e, hk⟩ => ?_)
  subst e
  intro S Q vs ok r q
  obtain ⟨y, ys, rfl, r1, r2⟩ := r.cons_inv
  obtain ⟨z, zs, rfl, r3, r4⟩ := r2.cons_inv
  cases r4.nil_inv
  exact ⟨i, j, by rw [r1.int, r3.int], q S _ _ (Gr.refl ok) rpi hk⟩
theorem ec_min2 (h : EA K E al Γ (fun ds => ∃ i j : Int, ds = [.int i, .int j] ∧ k (.int (if j < i then j else i))) kx) : EC K E (tCB zMin2 al) Γ k kx := by
  refine ec_cb (h.mono fun ds ⟨i, j, e, hk⟩ => ?_)
  subst e
  intro S Q vs ok r q
  obtain ⟨y, ys, rfl, r1, r2⟩ := r.cons_inv
  obtain ⟨z, zs, rfl, r3, r4⟩ := r2.cons_inv
  cases r4.nil_inv
  exact ⟨i, j, by rw [r1.int, r3.int], q S _ _ (Gr.refl ok) rpi hk⟩
theorem ec_intB (h : EC K E ta Γ (fun d => ∃ b, d = .bl b ∧ k (.int (if b then 1 else 0))) kx) : EC K E (tCB zInt (tCons ta tNil)) Γ k kx := by
  refine ec_cb (ea_cons (h.mono fun d ⟨i, e, hk⟩ => ea_nil ?_))
  subst e
  intro S Q vs ok r q
  obtain ⟨y, ys, rfl, r1, r2⟩ := r.cons_inv
  cases r2.nil_inv
  unfold Rp at r1
  exact .inr ⟨i, by rw [r1], q S _ _ (Gr.refl ok) rpi hk⟩

/-! ### subscripts, slices, + and * of lists -/
theorem atI_rel {ds : List D} {xs : List V} {z : Int} {d : D} (r : RpL K S ds xs) (h : atI ds z = some d) : ∃ v, atI xs z = some v ∧ Rp K S d v := by
  unfold atI at h ⊢
  rw [r.length]
  cases e : ixN ds.length z with
  | none => rw [e] at h; cases h
  | some j =>
    rw [e] at h
    obtain ⟨v, e1, r1⟩ := r.get (i := j) h
    exact ⟨v, e1, r1⟩
theorem ec_ix (h : EL K E ta Γ (fun ds => EC K E tb Γ (fun y => ∃ (z : Int) (d : D), y = .int z ∧ atI ds z = some d ∧ k d) kx) kx) : EC K E (tOp (rIxL K) ta tb) Γ k kx := fun S0 S σ Q e q x =>
  h S0 S σ _ e (fun T p xs ds g hp hm r h2 => h2 S0 T σ _ (e.gr g) (fun U v y g2 r2 ⟨z, d, ey, ha, kd⟩ => by
    subst ey
    obtain ⟨w, e1, r1⟩ := atI_rel (r.mono g2.le) ha
    exact ⟨p, xs, z, w, rfl, r2.int, SqL.of (g2.hp _ _ hp hm), e1, q U w d (g.trans g2) r1 kd⟩) (x.gr g)) x
theorem ec_ixT (h : EC K E ta Γ (fun d => ∃ ds, d = .tup ds ∧ EC K E tb Γ (fun y => ∃ (z : Int) (d : D), y = .int z ∧ atI ds z = some d ∧ k d) kx) kx) : EC K E (tOp (rIxT K) ta tb) Γ k kx := fun S0 S σ Q e q x =>
  h S0 S σ _ e (fun T v d g r ⟨ds, ed, h2⟩ => by
    subst ed
    unfold Rp at r
    obtain ⟨a, xs, rfl, f, r⟩ := r
    refine h2 S0 T σ _ (e.gr g) (fun U v y g2 r2 ⟨z, d, ey, ha, kd⟩ => ?_) (x.gr g)
    subst ey
    obtain ⟨w, e1, r1⟩ := atI_rel (r.mono g2.le) ha
    exact ⟨a, xs, z, w, rfl, r2.int, sqt_mono g2.ok.sub (sqt_mono g2.fz f), e1, q U w d (g.trans g2) r1 kd⟩) x
theorem ec_ixScr (h : EC K E ta Γ (fun d => ∃ ns, d = .scr ns ∧ EC K E tb Γ (fun y => ∃ (z n : Int), y = .int z ∧ atI ns z = some n ∧ k (.int n)) kx) kx) : EC K E (tOp (rIxL K) ta tb) Γ k kx := fun S0 S σ Q e q x =>
  h S0 S σ _ e (fun T v d g r ⟨ns, ed, h2⟩ => by
    subst ed
    unfold Rp at r
    obtain ⟨a, rfl, f⟩ := r
    refine h2 S0 T σ _ (e.gr g) (fun U v y g2 r2 ⟨z, n, ey, ha, kd⟩ => ?_) (x.gr g)
    subst ey
    refine ⟨a, ns.map V.int, z, .int n, rfl, r2.int, sql_mono g2.ok.sub (sql_mono g2.fz f), ?_, q U _ _ (g.trans g2) rpi kd⟩
    unfold atI at ha ⊢
    rw [List.length_map]
    cases e : ixN ns.length z with
    | none => rw [e] at ha; cases ha
    | some j =>
      rw [e] at ha
      show (ns.map V.int)[j]? = _
      rw [List.getElem?_map, show ns[j]? = some n from ha]
      rfl) x
def EO (K : PySem.W.Frag) (E : XK) (to : TO) (Γ : Ctx) (ko : Option Int → Prop) (kx : Addr → D → Prop) : Prop := ∀ (S0 S : Wd) (σ : L2.St) (Q : Option Int → Hp → Prop), EnvOk K S0 S σ Γ → (∀ (T : Wd) o, Gr S T → ko o → Q o T.H) → XP K E S kx → to σ S.H Q
theorem eo_none {ko : Option Int → Prop} (h : ko none) : EO K E tNoPart Γ ko kx := fun S0 S σ Q e q x => q S none (Gr.refl e.ok) h
theorem eo_some {ko : Option Int → Prop} (h : EC K E te Γ (fun d => ∃ i, d = .int i ∧ ko (some i)) kx) : EO K E (tPart te) Γ ko kx := fun S0 S σ Q e q x =>
  h S0 S σ _ e (fun T v d g r ⟨i, ed, kd⟩ => by
    subst ed
    exact ⟨i, r.int, q T (some i) g kd⟩) x
def cut {α : Type} (xs : List α) (lo hi : Option Int) : List α := (xs.drop (HT.sIx xs.length 0 lo)).take (HT.sIx xs.length xs.length hi - HT.sIx xs.length 0 lo)
theorem RpL.cut {ds : List D} {xs : List V} (r : RpL K S ds xs) (lo hi : Option Int) : RpL K S (cut ds lo hi) (cutV xs lo hi) := by
  unfold Z.cut cutV
  rw [r.length]
  exact (r.drop _).take _
theorem en_slice {tl th : TO} (h : EL K E te Γ (fun ds => EO K E tl Γ (fun lo => EO K E th Γ (fun hi => kl (cut ds lo hi)) kx) kx) kx) : EN K E (tSl (rSlL K) te tl th) Γ kl kx := fun S0 S σ Q e q x =>
  h S0 S σ _ e (fun T p xs ds g hp hm r h2 => h2 S0 T σ _ (e.gr g) (fun U lo g2 h3 => h3 S0 U σ _ (e.gr (g.trans g2)) (fun W hi g3 kd => by
    have g23 := g2.trans g3
    have gg := g.trans g23
    refine ⟨p, xs, rfl, SqL.of (g23.hp _ _ hp hm), fun l hn => ?_⟩
    have g4 := Gr.layO gg.ok hn (.lst (cutV xs lo hi))
    exact q ⟨W.F, upd W.H l (.lst (cutV xs lo hi)), W.M⟩ l _ _ (gg.trans g4) (gg.new hn) upd_same (gg.ok.fnone hn) (gg.ok.mnone hn) (RpL.cut (r.mono (g23.trans g4).le) lo hi) kd) (x.gr (g.trans g2))) (x.gr g)) x
theorem en_cat (h : EL K E ta Γ (fun ds => EL K E tb Γ (fun es => ds.length + es.length ≤ 1000000 ∧ kl (ds ++ es)) kx) kx) : EN K E (tOp rCat ta tb) Γ kl kx := fun S0 S σ Q e q x =>
  h S0 S σ _ e (fun T p xs ds g hp hm r h2 => h2 S0 T σ _ (e.gr g) (fun U p2 ys es g2 hp2 hm2 r2 ⟨hl, kd⟩ => by
    have gg := g.trans g2
    refine ⟨p, p2, xs, ys, rfl, rfl, g2.hp _ _ hp hm, hp2, by rw [r.length, r2.length]; exact big hl, fun l hn => ?_⟩
    have g4 := Gr.layO gg.ok hn (.lst (xs ++ ys))
    exact q ⟨U.F, upd U.H l (.lst (xs ++ ys)), U.M⟩ l _ _ (gg.trans g4) (gg.new hn) upd_same (gg.ok.fnone hn) (gg.ok.mnone hn) (RpL.append (r.mono (g2.trans g4).le) (r2.mono g4.le)) kd) (x.gr g)) x
theorem RpL.rep {ds : List D} {xs : List V} (r : RpL K S ds xs) : ∀ n : Nat, RpL K S (List.replicate n ds).flatten (List.replicate n xs).flatten
  | 0 => RpL.nil
  | n + 1 => by
    rw [List.replicate_succ, List.replicate_succ, List.flatten_cons, List.flatten_cons]
    exact RpL.append r (RpL.rep r n)
theorem en_rep (h : EL K E ta Γ (fun ds => EC K E tb Γ (fun y => ∃ n : Int, y = .int n ∧ (-1000000 ≤ n ∧ n ≤ 1000000) ∧ ds.length * n.toNat ≤ 1000000 ∧ kl (List.replicate n.toNat ds).flatten) kx) kx) : EN K E (tOp rRep ta tb) Γ kl kx := fun S0 S σ Q e q x =>
  h S0 S σ _ e (fun T p xs ds g hp hm r h2 => h2 S0 T σ _ (e.gr g) (fun U v y g2 r2 ⟨n, ey, hn1, hz, kd⟩ => by
    subst ey
    have gg := g.trans g2
    refine ⟨p, n, xs, rfl, r2.int, g2.hp _ _ hp hm, by omega, by omega, by rw [r.length]; exact big hz, fun l hn => ?_⟩
    have g4 := Gr.layO gg.ok hn (.lst (List.replicate n.toNat xs).flatten)
    exact q ⟨U.F, upd U.H l _, U.M⟩ l _ _ (gg.trans g4) (gg.new hn) upd_same (gg.ok.fnone hn) (gg.ok.mnone hn) (RpL.rep (r.mono (g2.trans g4).le) _) kd) (x.gr g)) x
/-- a < b < c -/
theorem ec_chain {r r' : R2} (h : EC K E ta Γ (fun x => EC K E tb Γ (fun y => RD K r x y (fun z => ∃ b, z = .bl b ∧ if b = true then EC K E tc Γ (fun w => RD K r' y w k) kx else k (.bl false))) kx) kx) : EC K E (tChain r r' ta tb tc) Γ k kx := fun S0 S σ Q e q x =>
  h S0 S σ _ e (fun T v d g r1 h2 => h2 S0 T σ _ (e.gr g) (fun U w d2 g2 r2 h3 => h3 U _ v w g2.ok (r1.mono g2.le) r2 fun W z dz g3 r3 ⟨b, ez, kd⟩ => by
    subst ez
    unfold Rp at r3
    refine ⟨b, r3, ?_⟩
    have gg := (g.trans g2).trans g3
    cases b with
    | true =>
      have h4 : EC K E tc Γ (fun w => RD K r' d2 w k) kx := kd
      show tc σ W.H _
      exact h4 S0 W σ _ (e.gr gg) (fun Y u du g4 r4 h5 => h5 Y Q w u g4.ok (r2.mono (g3.trans g4).le) r4 fun Z a da g5 r5 k5 => q Z a da ((gg.trans g4).trans g5) r5 k5) (x.gr gg)
    | false =>
      have h4 : k (.bl false) := kd
      exact q W _ _ gg rpb h4) (x.gr g)) x

/-! ### pools -/
theorem ec_pool0 (h : EC K E ta Γ (fun d => d = .pool ∧ ∀ z : Int, k (.int z)) kx) : EC K E (tOp (rIxL K) ta (tC (.int 0))) Γ k kx := fun S0 S σ Q e q x =>
  h S0 S σ _ e (fun T v d g r ⟨ed, hk⟩ => by
    subst ed
    unfold Rp at r
    obtain ⟨a, rfl, hm⟩ := r
    obtain ⟨hf, z, y, hp, hy⟩ := g.ok.pool a hm
    exact ⟨a, _, 0, .int z, rfl, rfl, SqL.of hp, rfl, q T _ _ g rpi (hk z)⟩) x
theorem ec_pool1 (h : EC K E ta Γ (fun d => d = .pool ∧ ∀ z : Int, 0 ≤ z → z < 4294967296 → k (.int z)) kx) : EC K E (tOp (rIxL K) ta (tC (.int 1))) Γ k kx := fun S0 S σ Q e q x =>
  h S0 S σ _ e (fun T v d g r ⟨ed, hk⟩ => by
    subst ed
    unfold Rp at r
    obtain ⟨a, rfl, hm⟩ := r
    obtain ⟨hf, z, y, hp, hy⟩ := g.ok.pool a hm
    exact ⟨a, _, 1, .int y, rfl, rfl, SqL.of hp, rfl, q T _ _ g rpi (hk y hy.1 hy.2)⟩) x
theorem sc_pool0 (h : EC K E te Γ (fun d => ∃ n : Int, d = .int n ∧ EC K E ta Γ (fun p => p = .pool ∧ P.nx Γ) P.kx) P.kx) : SC K E (tAsg te (gSub ta (tC (.int 0)) rSetL)) Γ P := fun S0 S σ D g e G =>
  h S0 S σ _ e (fun T v d g2 r ⟨n, ed, h2⟩ => by
    subst ed
    refine h2 S0 T σ _ (e.gr g2) (fun U w y g3 r3 ⟨ey, kd⟩ => ?_) (G.kx.gr (g.trans g2))
    subst ey
    unfold Rp at r3
    obtain ⟨a, rfl, hm⟩ := r3
    obtain ⟨hf, z, y, hp, hy⟩ := g3.ok.pool a hm
    have g4 := Gr.poolSet g3.ok hm n y hy
    have gg := (g2.trans g3).trans g4
    refine ⟨a, _, 0, 0, rfl, rfl, hp, rfl, ?_⟩
    rw [r.int]
    exact G.nx _ σ Γ (g.trans gg) gg.le (e.gr gg) kd) (G.kx.gr g)
theorem sc_pool1 (h : EC K E te Γ (fun d => ∃ n : Int, d = .int n ∧ (0 ≤ n ∧ n < 4294967296) ∧ EC K E ta Γ (fun p => p = .pool ∧ P.nx Γ) P.kx) P.kx) : SC K E (tAsg te (gSub ta (tC (.int 1)) rSetL)) Γ P := fun S0 S σ D g e G =>
  h S0 S σ _ e (fun T v d g2 r ⟨n, ed, hn, h2⟩ => by
    subst ed
    refine h2 S0 T σ _ (e.gr g2) (fun U w y g3 r3 ⟨ey, kd⟩ => ?_) (G.kx.gr (g.trans g2))
    subst ey
    unfold Rp at r3
    obtain ⟨a, rfl, hm⟩ := r3
    obtain ⟨hf, z, y, hp, hy⟩ := g3.ok.pool a hm
    have g4 := Gr.poolSet g3.ok hm z n hn
    have gg := (g2.trans g3).trans g4
    refine ⟨a, _, 1, 1, rfl, rfl, hp, rfl, ?_⟩
    rw [r.int]
    exact G.nx _ σ Γ (g.trans gg) gg.le (e.gr gg) kd) (G.kx.gr g)
theorem Le.toPool (T : Wd) (p : Addr) : Le T ⟨T.F, T.H, fun a => if a = p then true else T.M a⟩ := ⟨fun _ _ e => e, fun a e => by
  show (if a = p then true else T.M a) = true
  split
  · rfl
  · exact e⟩
theorem sc_toPool (i : Nat) {x y : Int} (h : Γ[i]? = some (.own [.int x, .int y])) (hy : 0 ≤ y ∧ y < 4294967296) (hs : SC K E t (Γ.set i (.dat .pool)) P) : SC K E t Γ P := fun S0 S σ D g e G => by
  obtain ⟨l, xs, h1, h2, h3, h4, h0, r⟩ := e.own i _ h
  obtain ⟨a, as, rfl, r1, r2⟩ := r.cons_inv
  obtain ⟨b, bs, rfl, r3, r4⟩ := r2.cons_inv
  cases r4.nil_inv
  rw [r1.int, r3.int] at h2
  have g2 := g.toPool h0 h2 h3 hy
  have lp := Le.toPool S l
  have hi : i < Γ.length := (List.getElem?_eq_some_iff.mp h).1
  have keep : ∀ {j : Nat} {x : Sl}, (Γ.set i (.dat .pool))[j]? = some x → (i = j ∧ x = .dat .pool) ∨ (i ≠ j ∧ Γ[j]? = some x) := fun {j x} hx => by
    by_cases hj : i = j
    · subst hj
      rw [List.getElem?_set_self hi] at hx
      exact .inl ⟨rfl, (Option.some.inj hx).symm⟩
    · rw [List.getElem?_set_ne hj] at hx
      exact .inr ⟨hj, hx⟩
  refine hs S0 ⟨S.F, S.H, fun a => if a = l then true else S.M a⟩ σ D g2 ⟨g2.ok, by simp [e.len], fun j d hj => ?_, fun j es hj => ?_, fun a b es fs l' hab ha hb hl => ?_⟩ (G.le lp)
  · rcases keep hj with ⟨z, hx⟩ | ⟨z, hx⟩
    · cases hx
      rw [← z]
      refine ⟨_, h1, ?_⟩
      unfold Rp
      exact ⟨l, rfl, if_pos rfl⟩
    · obtain ⟨v, a, b⟩ := e.dat j d hx
      exact ⟨v, a, b.mono lp⟩
  · rcases keep hj with ⟨z, hx⟩ | ⟨z, hx⟩
    · cases hx
    · obtain ⟨l2, ys, a1, a2, a3, a4, a5, a6⟩ := e.own j es hx
      have ne : l2 ≠ l := fun w => by
        subst w
        exact e.apart i j _ es l2 z h hx h1 a1
      refine ⟨l2, ys, a1, a2, a3, ?_, a5, a6.mono lp⟩
      show (if l2 = l then true else S.M l2) = false
      rw [if_neg ne]
      exact a4
  · rcases keep ha with ⟨z, hx⟩ | ⟨z, hx⟩
    · cases hx
    · rcases keep hb with ⟨z2, hx2⟩ | ⟨z2, hx2⟩
      · cases hx2
      · exact e.apart a b es fs l' hab hx hx2 hl
end
end Z

namespace Z
open PySem PySem.Spec PyProof.Rows L2
/-- a def of the module that may be called by its name -/
structure Cal (P : Program) (w : World) (K : PySem.W.Frag) (mg : Str → Option Value) (base : Heap) (x : Str) (k : Nat) (ps : List Str) (sp : Sp) : Prop where
  ex : ∃ (f : Addr) (fd : FuncData), FnOk P w K mg base CX0 k f fd ps sp ∧ mg x = some (.ref f) ∧ PySem.W.keepIn K (.ref f) = true ∧ Binds K fd ps []
def Gv (mg : Str → Option Value) (x : Str) (v : V) : Prop := ∃ u, mg x = some u ∧ RelV v u
section
variable {X : Cx}
theorem pe_callC {x : Str} {k : Nat} {ps : List Str} {sp : Sp} {e : Expr} {es : List Expr} {t : TA} {p pos : Pos} (C : Cal X.prog X.w X.K X.mg X.base x k ps sp) (hr : Room k X.A) (hg : Gl X x) (ha : PA X (e :: es) t) (hdb : (x == ("__debug__" : Str)) = false := by decide)
    (he : starEach (e :: es) X.env = (false, eval e X.env) :: starEach es X.env := by rfl) (hpl : (backTo pos (starEach es X.env)).any (·.1) = false := by rfl) : PE X (.Call (.Name x p) (e :: es) [] pos) (tCall sp [] E0 t) := by
  obtain ⟨f, fd, F, hm, hk, hb⟩ := C.ex
  exact pe_call F hr hg hm hk hb .nil pass0 ha hdb he hpl
theorem pe_gC {x : Str} {v : V} {pos : Pos} (hg : Gl X x) (h : Gv X.mg x v) (hd : (x == ("__debug__" : Str)) = false := by decide) : PE X (.Name x pos) (tC v) := by
  obtain ⟨u, hm, r⟩ := h
  exact pe_glob hg hm r hd
end
theorem Cal.of {P : Program} {w : World} {K : PySem.W.Frag} {mg : Str → Option Value} {base : Heap} {x qual : Str} {st : Stmt} {f : Addr} {fd : FuncData} {k : Nat} {ps : List Str} {sp : Sp} (F : Fun K x qual st f fd) (g : mg x = some (.ref f)) (b : Binds K fd ps []) (h : FnOk P w K mg base CX0 k f fd ps sp) :
    Cal P w K mg base x k ps sp := ⟨f, fd, h, g, F.kp, b⟩
/-- the law: of a script it gives True -/
def wpLaw : WP := fun ds q _ => ∃ ns : List Int, ds = [.scr ns] ∧ ns.length ≤ 63 ∧ q (.bl true)
theorem law_sp {K : PySem.W.Frag} {H : Hp} {a : Addr} {ns : List Int} (hl : ns.length ≤ 63) (hS : SqL K H a (ns.map V.int)) : spD K wpLaw [.ref a] H (fun v _ => v = .bl true) fun _ _ _ => False := by
  refine ⟨⟨H, H, fun _ => false⟩, [.scr ns], fun d => d = .bl true, F0, ⟨fun _ _ e => e, fun _ e => nomatch e⟩, rfl, RpL.cons ?_ RpL.nil, ⟨ns, rfl, hl, rfl⟩, fun T v d g r e => ?_, xp0⟩
  · unfold Rp
    exact ⟨a, rfl, hS⟩
  · subst e
    unfold Rp at r
    exact r
end Z

namespace Z
open PySem PySem.Spec PyProof.Rows L2
section
variable {K : PySem.W.Frag} {E : XK} {k : D → Prop} {i j : Int}
theorem ite_of {c : Bool} {A B : Prop} (h1 : c = true → A) (h2 : c = false → B) : if c = true then A else B := by
  cases c with
  | true => exact h1 rfl
  | false => exact h2 rfl
theorem ite_d {c : Prop} [Decidable c] {A B : Prop} (h1 : c → A) (h2 : ¬ c → B) : if decide c = true then A else B := by
  by_cases h : c
  · rw [decide_eq_true h]
    exact h1 h
  · rw [decide_eq_false h]
    exact h2 h
theorem ite_nd {c : Prop} [Decidable c] {A B : Prop} (h1 : ¬ c → A) (h2 : c → B) : if (!decide c) = true then A else B := by
  by_cases h : c
  · rw [decide_eq_true h]
    exact h2 h
  · rw [decide_eq_false h]
    exact h1 h
theorem ec_lenS {ta : TE} {Γ : Ctx} {kx : Addr → D → Prop} (h : EC K E ta Γ (fun d => ∃ ns, d = .scr ns ∧ k (.int (ns.length : Nat))) kx) : EC K E (tCB (zLen K) (tCons ta tNil)) Γ k kx := by
  refine ec_lenD (h.mono ?_)
  rintro d ⟨ns, rfl, hk⟩
  exact hk
theorem sc_seqR {te : TE} {tt : TT} {u : TS} {Γ : Ctx} {P : Po} (h : SC K E (tIfS tt (tRet te) tNext) Γ { P with nx := fun Δ => SC K E u Δ P }) : SC K E (tSeq (tIfS tt (tRet te) tNext) u) Γ P := sc_seq h
theorem sc_seqN {tt : TT} {u : TS} {Γ : Ctx} {P : Po} (h : SC K E (tIfS tt tNever tNext) Γ { P with nx := fun Δ => SC K E u Δ P }) : SC K E (tSeq (tIfS tt tNever tNext) u) Γ P := sc_seq h
theorem sc_seqI {tt : TT} {t v u : TS} {Γ : Ctx} {P : Po} (h : SC K E (tIfS tt t v) Γ { P with nx := fun Δ => SC K E u Δ P }) : SC K E (tSeq (tIfS tt t v) u) Γ P := sc_seq h
theorem atI_of {α : Type} {xs : List α} {z : Int} {j : Nat} {v : α} (e : z = (j : Int)) (h : xs[j]? = some v) : atI xs z = some v := by
  rw [e]
  exact atI_nat h
theorem rd_mod (h : 0 < j) (hk : k (.int (i % j))) : RD K (rI (fun _ j => 0 < j) fun i j => .int (i % j)) (.int i) (.int j) k := rd_intC h hk
theorem log_lt {j : Int} (h : 0 < j) (h2 : j < 10 ^ 250) : j.natAbs.log2 < 9000 := by
  have e : j.natAbs < 2 ^ 1000 := by
    have h3 : ((10 : Int) ^ 250) < 2 ^ 1000 := by decide +kernel
    have h4 : (j.natAbs : Int) = j := by omega
    have h5 : (j.natAbs : Int) < ((2 ^ 1000 : Nat) : Int) := by
      rw [h4]
      exact Int.lt_trans h2 (by rw [Int.natCast_pow]; exact h3)
    exact Int.ofNat_lt.mp h5
  exact Nat.lt_of_lt_of_le (PySem.Flt.log2_lt_of (by decide) e) (by decide)
theorem rd_fdiv (h : 0 < j) (h2 : j < 10 ^ 250) (hk : k (.int (i / j))) : RD K (rI CDivW fun i j => .int (i / j)) (.int i) (.int j) k := rd_intC ⟨h, log_lt h h2⟩ hk
theorem rd_mulL (h : -(2 ^ 64) < i ∧ i < 2 ^ 64) (hk : k (.int (i * j))) : RD K (rI CMul fun i j => .int (i * j)) (.int i) (.int j) k := rd_intC (.inl h) hk
theorem rd_mulR (h : -(2 ^ 64) < j ∧ j < 2 ^ 64) (hk : k (.int (i * j))) : RD K (rI CMul fun i j => .int (i * j)) (.int i) (.int j) k := rd_intC (.inr h) hk
theorem rd_pow (h : CPow i j) (hk : k (.int (i ^ j.toNat))) : RD K (rI CPow fun i j => .int (i ^ j.toNat)) (.int i) (.int j) k := rd_intC h hk
end
end Z

namespace Z
open PySem PySem.Spec PyProof.Rows L2
section
variable {K : PySem.W.Frag} {E : XK} {S : Wd} {te ta tb tc tl : TE} {Γ : Ctx} {k : D → Prop} {kx : Addr → D → Prop} {P : Po} {kl : List D → Prop} {al : TA}
/-- the built-in class of data -/
def D.kind : D → Option String
  | .non => some "NoneType"
  | .bl _ => some "bool"
  | .int _ => some "int"
  | .str _ => some "str"
  | .lst _ => some "list"
  | .tup _ => some "tuple"
  | _ => none
theorem D.tyx {d : D} {v : V} {t : String} (ok : S.Ok) (r : Rp K S d v) (h : d.kind = some t) : TyX K S.H v (.type t) := by
  cases d with
  | non => unfold Rp at r; subst r; cases h; exact .base .non
  | bl b => unfold Rp at r; subst r; cases h; exact .base (.bl b)
  | int i => unfold Rp at r; subst r; cases h; exact .base (.int i)
  | str x => unfold Rp at r; subst r; cases h; exact .base (.str x)
  | lst ds =>
    unfold Rp at r
    obtain ⟨a, xs, rfl, f, r⟩ := r
    cases h
    exact .base (.lst (ok.sub _ _ f))
  | tup ds =>
    unfold Rp at r
    obtain ⟨a, xs, rfl, f, r⟩ := r
    cases h
    rcases f with (f | ⟨o, f⟩) | ⟨o, its, n, e, c, _⟩
    · exact .base (.tup (ok.sub _ _ f))
    · exact .fTuple (ok.sub _ _ f)
    · exact .kTuple e c
  | _ => cases h
theorem ec_isi {T : String} (h : EC K E ta Γ (fun d => ∃ t b, d.kind = some t ∧ kitB t T = some b ∧ k (.bl b)) kx) : EC K E (tCB (rIsi K) (tCons ta (tCons (tC (.ty T)) tNil))) Γ k kx := by
  refine ec_cb (ea_cons (h.mono fun d ⟨t, b, h1, h2, hk⟩ => ea_cons (ec_val (ea_nil ?_))))
  intro S Q vs ok r q
  obtain ⟨y, ys, rfl, r1, r2⟩ := r.cons_inv
  obtain ⟨z, zs, rfl, r3, r4⟩ := r2.cons_inv
  cases r4.nil_inv
  unfold Rp at r3
  subst r3
  exact ⟨y, .ty T, .type t, .type T, b, rfl, .ty T, D.tyx ok r1 h1, kit_ty h2, q S _ _ (Gr.refl ok) rpb hk⟩
theorem isi_ll : kitB "list" "list" = some true := by decide +kernel
theorem isi_ii : kitB "int" "int" = some true := by decide +kernel
theorem isi_ib : kitB "int" "bool" = some false := by decide +kernel
theorem isi_bi : kitB "bool" "int" = some true := by decide +kernel
theorem isi_bb : kitB "bool" "bool" = some true := by decide +kernel
theorem cut_map {α β : Type} (f : α → β) (xs : List α) (lo hi : Option Int) : cut (xs.map f) lo hi = (cut xs lo hi).map f := by
  unfold cut
  rw [List.length_map, List.map_take, List.map_drop]
theorem zip_tup {α β : Type} (e1 : α → D) (e2 : β → D) (xs : List α) (ys : List β) : ((xs.map e1).zip (ys.map e2)).map (fun p => D.tup [p.1, p.2]) = (xs.zip ys).map (fun p => D.tup [e1 p.1, e2 p.2]) := by
  rw [List.zip_map, List.map_map]
  rfl
theorem enum_tup {α : Type} (e : α → D) (xs : List α) : ((xs.map e).zipIdx).map (fun p => D.tup [.int p.2, p.1]) = xs.zipIdx.map (fun p => D.tup [.int p.2, e p.1]) := by
  rw [List.zipIdx_map, List.map_map]
  rfl
theorem cut_from {α : Type} (xs : List α) (n : Nat) : cut xs (some (n : Int)) none = xs.drop n := by
  unfold cut
  rw [HT.sIx_nat, HT.sIx_none]
  by_cases h : n ≤ xs.length
  · rw [Nat.min_eq_left h]
    exact List.take_of_length_le (by rw [List.length_drop]; exact Nat.le_refl _)
  · rw [Nat.min_eq_right (by omega), List.drop_of_length_le (Nat.le_refl _), List.drop_of_length_le (by omega)]
    simp
theorem cut_to {α : Type} (xs : List α) (n : Nat) : cut xs none (some (n : Int)) = xs.take n := by
  unfold cut
  rw [HT.sIx_nat, HT.sIx_none]
  show (xs.drop 0).take (min n xs.length - 0) = _
  rw [List.drop_zero, Nat.sub_zero]
  by_cases h : n ≤ xs.length
  · rw [Nat.min_eq_left h]
  · rw [Nat.min_eq_right (by omega), List.take_of_length_le (Nat.le_refl _), List.take_of_length_le (by omega)]
theorem cut_butlast {α : Type} (xs : List α) (n : Nat) : cut xs (some (n : Int)) (some (-1)) = xs.dropLast.drop n := by
  unfold cut
  rw [HT.sIx_nat]
  have e : HT.sIx xs.length xs.length (some (-1)) = xs.length - 1 := by
    unfold HT.sIx
    simp
    omega
  rw [e, List.dropLast_eq_take, List.drop_take]
  by_cases h : n ≤ xs.length
  · rw [Nat.min_eq_left h]
  · rw [Nat.min_eq_right (by omega), List.drop_of_length_le (Nat.le_refl _), List.drop_of_length_le (by omega)]
    simp
theorem rpl_rev : ∀ {ds : List D} {xs : List V}, RpL K S ds xs → RpL K S ds.reverse xs.reverse
  | [], _, r => by
    rw [r.nil_inv]
    exact RpL.nil
  | d :: ds, _, r => by
    obtain ⟨y, ys, rfl, r1, r2⟩ := r.cons_inv
    rw [List.reverse_cons, List.reverse_cons]
    exact RpL.append (rpl_rev r2) (RpL.cons r1 RpL.nil)
theorem en_revL (h : EL K E te Γ (fun ds => kl ds.reverse) kx) : EN K E (tRevL K te) Γ kl kx := fun S0 S σ Q e q x =>
  h S0 S σ _ e (fun T p xs ds g hp hm r kd => ⟨p, xs, rfl, SqL.of hp, fun l hn => by
    have g4 := Gr.layO g.ok hn (.lst xs.reverse)
    exact q ⟨T.F, upd T.H l _, T.M⟩ l _ _ (g.trans g4) (g.new hn) upd_same (g.ok.fnone hn) (g.ok.mnone hn) ((rpl_rev r).mono g4.le) kd⟩) x
theorem iteNTF {A B : Prop} (b : B) : if (!true) = true then A else B := b
theorem iteNFT {A B : Prop} (a : A) : if (!false) = true then A else B := a
theorem ite_dT {c : Prop} [Decidable c] {A B : Prop} (h : c) (a : A) : if decide c = true then A else B := by
  rw [decide_eq_true h]
  exact a
theorem ite_dF {c : Prop} [Decidable c] {A B : Prop} (h : ¬ c) (b : B) : if decide c = true then A else B := by
  rw [decide_eq_false h]
  exact b
theorem ite_nT {c : Prop} [Decidable c] {A B : Prop} (h : ¬ c) (a : A) : if (!decide c) = true then A else B := by
  rw [decide_eq_false h]
  exact a
theorem ite_nF {c : Prop} [Decidable c] {A B : Prop} (h : c) (b : B) : if (!decide c) = true then A else B := by
  rw [decide_eq_true h]
  exact b
/-- for x in a list at a slot -/
theorem sc_forL {i : Nat} {ds : List D} {g : TG} {t : TS} (h : Γ[i]? = some (.dat (.lst ds))) (Iv : Nat → Ctx → Prop) (h0 : Iv 0 Γ) (hs : ∀ (i : Nat) d Δ, ds[i]? = some d → Iv i Δ → GC K g d Δ fun Δ' => SC K E t Δ' { P with nx := Iv (i + 1), ct := Iv (i + 1), bk := P.nx })
    (hd : ∀ Δ, Iv ds.length Δ → P.nx Δ) : SC K E (tFor (iList K (tVar i)) g t) Γ P := sc_for (ei_list (ec_var h ⟨ds, rfl, Iv, h0, hs, hd⟩))
theorem get_ints {ns : List Int} {i : Nat} {d : D} (h : (ns.map D.int)[i]? = some d) : ∃ n, d = .int n ∧ ns[i]? = some n := by
  rw [List.getElem?_map] at h
  cases e : ns[i]? with
  | none => rw [e] at h; cases h
  | some n =>
    rw [e] at h
    cases h
    exact ⟨n, rfl, rfl⟩
/-- over a range -/
theorem sc_forR {n : Int} {g : TG} {t : TS} (hn : n < 2 ^ 62) (Iv : Nat → Ctx → Prop) (h0 : Iv 0 Γ) (hs : ∀ (i : Nat) Δ, (i : Int) < n → Iv i Δ → GC K g (.int i) Δ fun Δ' => SC K E t Δ' { P with nx := Iv (i + 1), ct := Iv (i + 1), bk := P.nx })
    (hd : ∀ Δ, Iv n.toNat Δ → P.nx Δ) (ha : ∀ kl : List D → Prop, kl [.int n] → EA K E al Γ kl P.kx) (hlo : -(2 ^ 62) ≤ n) : SC K E (tFor (iRng1 al) g t) Γ P := by
  refine sc_for (ei_range1 (ha _ ⟨n, rfl, ⟨hlo, hn⟩, Iv, h0, fun i d Δ e hI => ?_, fun Δ hI => hd Δ ?_⟩))
  · rw [List.getElem?_map] at e
    by_cases hi : i < n.toNat
    · rw [List.getElem?_range hi] at e
      cases e
      have e0 : (0 : Int) + (i : Int) = i := Int.zero_add _
      show GC K g (D.int (0 + (i : Int))) Δ _
      rw [e0]
      exact hs i Δ (by omega) hI
    · rw [List.getElem?_eq_none (by simpa using hi)] at e
      cases e
  · rw [List.length_map, List.length_range] at hI
    exact hI
end
end Z

namespace Z
open PySem PySem.Spec PyProof.Rows L2
/-! the rules that name the written part, with it told (within a comprehension's block the unifier cannot find it) -/
section
variable {X : Cx} (K : PySem.W.Frag)
theorem kix_list (hK : X.K = K := by rfl) : IxR X (rIxL K) := hK ▸ ix_list
theorem kix_tup (hK : X.K = K := by rfl) : IxR X (rIxT K) := hK ▸ ix_tup
theorem ksl_list (hK : X.K = K := by rfl) : SlR X (rSlL K) := hK ▸ sl_list
theorem kz_len (hK : X.K = K := by rfl) : CallR X (.builtin "len") (zLen K) := hK ▸ cz_len
theorem kr_sum (hc : X.calm = true := by rfl) (hK : X.K = K := by rfl) : CallR X (.builtin "sum") (rSum K) := hK ▸ cr_sum hc
theorem kr_max (hc : X.calm = true := by rfl) (hK : X.K = K := by rfl) : CallR X (.builtin "max") (rMax K) := hK ▸ cr_max hc
theorem kr_min (hc : X.calm = true := by rfl) (hK : X.K = K := by rfl) : CallR X (.builtin "min") (rMin K) := hK ▸ cr_min hc
theorem kr_any (hc : X.calm = true := by rfl) (hK : X.K = K := by rfl) : CallR X (.builtin "any") (rAny K) := hK ▸ cr_any hc
theorem kr_all (hc : X.calm = true := by rfl) (hK : X.K = K := by rfl) : CallR X (.builtin "all") (rAll K) := hK ▸ cr_all hc
theorem kz_anyI (hc : X.calm = true := by rfl) (hK : X.K = K := by rfl) : CallR X (.builtin "any") (zAnyI K) := hK ▸ cz_anyI hc
theorem kr_sortedI (hK : X.K = K := by rfl) : CallR X (.builtin "sorted") (rSortedI K) := hK ▸ cr_sortedI
theorem kz_list (hK : X.K = K := by rfl) : CallR X (.type "list") (zList K) := hK ▸ cz_list
theorem k_isi (hK : X.K = K := by rfl) : CallR X (.builtin "isinstance") (rIsi K) := hK ▸ call_isi
theorem kop_eqD (hu : X.A.units + 64 < cLine) (hK : X.K = K := by rfl) : OpR X (compareOp .Eq) (rEqD K) := hK ▸ op_eqD hu
theorem kop_neD (hu : X.A.units + 64 < cLine) (hK : X.K = K := by rfl) : OpR X (compareOp .NotEq) (rNeD K) := hK ▸ op_neD hu
theorem kop_in (hK : X.K = K := by rfl) : OpR X (compareOp .In) (rIn K false) := hK ▸ op_in_seq
theorem kop_notIn (hK : X.K = K := by rfl) : OpR X (compareOp .NotIn) (rIn K true) := hK ▸ op_notIn_seq
variable {tg e e2 l : Expr} {tl : TE} {ta : TA} {p pos tpos : Pos} {elts es : List Expr} {kk n : Nat}
theorem kpi_list (hl : PE X l tl) (hK : X.K = K := by rfl) : PI X tg l (iList K tl) := hK ▸ pi_list hl
theorem kpi_tup (hl : PE X l tl) (hK : X.K = K := by rfl) : PI X tg l (iTup K tl) := hK ▸ pi_tup hl
theorem kpi_enum (hg : Gl X "enumerate") (hm : X.mg "enumerate" = none) (ha : PA X [e] ta) (hs : starEach [e] X.env = [(false, eval e X.env)] := by rfl) (hK : X.K = K := by rfl) : PI X (.Tuple elts kk tpos) (.Call (.Name "enumerate" p) [e] [] pos) (iEnum K ta) := hK ▸ pi_enum hg hm ha hs
theorem kpi_zip (hg : Gl X "zip") (hm : X.mg "zip" = none) (ha : PA X [e, e2] ta) (hs : starEach [e, e2] X.env = (false, eval e X.env) :: starEach [e2] X.env := by rfl) (hpl : (backTo pos (starEach [e2] X.env)).any (·.1) = false := by rfl) (hK : X.K = K := by rfl) :
    PI X (.Tuple elts kk tpos) (.Call (.Name "zip" p) [e, e2] [] pos) (iZip K ta) := hK ▸ pi_zip hg hm ha hs hpl
theorem kpg_tup {t : TGs} (hc : X.calm = true) (h : PGs X es t) (hn : (assignEach es X.env).length = n := by rfl) (hst : (assignEach es X.env).findIdx? (·.1) = none := by rfl) (hK : X.K = K := by rfl) : PG X (.Tuple es kk pos) (gTup K n t) := hK ▸ pg_tup hc h hn hst
theorem k_revL {p1 p2 p3 : Pos} (he : PE X e tl) (hK : X.K = K := by rfl) : PE X (.Subscript e (.Slice none none (some (.UnaryOp .USub (.Constant (.int 1) kk p1) p2)) p3) pos) (tRevL K tl) := hK ▸ pe_revL he
def tTru (K : PySem.W.Frag) (ta : TE) : TT := fun σ H Q => ta σ H fun x H' => ∃ k, TruV K x H' k ∧ Q k H'
theorem kpt_truth (ha : PE X e tl) (he : ∀ whole, isTrue e X.env whole = (do let v ← whole; standAt e.pos; holding [v] (truthy v)) := by intro _; rfl) (hK : X.K = K := by rfl) : PT X e (tTru K tl) := hK ▸ pt_truth ha he
end
/-! names that hold a list of one's own -/
def gO (i : Nat) : TG := gName i
section
variable {X : Cx}
theorem ps_setO {i : Nat} {x : Str} {e : Expr} {te : TE} {pos' pos : Pos} (hN : X.N.Nodup) (hi : X.N[i]? = some x) (hx : Loc X.env.scope x) (he : PE X e te) (hs : swapsWith e (some (.Name x pos')) pos.line X.env = pure false := by rfl) (hf : X.fn x = true ∨ X.env.scope.names.lookup x = some .local := by first | exact .inl rfl | exact .inr rfl | assumption) :
    PS X (.Assign [.Name x pos'] e pos) (tAsg te (gO i)) := ps_set hN hi hx he hs hf
theorem ps_setLcO {i : Nat} {y : Str} {py : Pos} {elt tg iter : Expr} {ifs : List Expr} {scope : Scope} {own : List (Str × Nat)} {pos spos : Pos} {wi : TI} {g : TG} {tt : TT} {te : TE} (hc : X.calm = true) (hN : X.N.Nodup) (hy : X.N[i]? = some y) (hyl : X.env.scope.names.lookup y = some .local)
    (hsw : swapsWith (.ListComp elt [⟨tg, iter, ifs, 0⟩] scope pos) (some (.Name y py)) spos.line X.env = pure true) (hi : PI X tg iter wi) (ok : BlkOk X.N X.env.scope scope own)
    (hg : ∀ (s : Shared) (H : Hp) (C : Addr) (cl : List (Str × Addr)) (fp : List Addr), PG (X.blk s H scope (compEnvC scope cl C X.env) fp) tg g) (ht : ∀ (s : Shared) (H : Hp) (C : Addr) (cl : List (Str × Addr)) (fp : List Addr), PTs (X.blk s H scope (compEnvC scope cl C X.env) fp) ifs tt)
    (he : ∀ (s : Shared) (H : Hp) (C : Addr) (cl : List (Str × Addr)) (fp : List Addr), PE (X.blk s H scope (compEnvC scope cl C X.env) fp) elt te) (hs : ∀ x, foldedSetIterable iter X.env x = pure x := by intro _; rfl) :
    PS X (.Assign [.Name y py] (.ListComp elt [⟨tg, iter, ifs, 0⟩] scope pos) spos) (tAsg (tLc wi g tt te (own.map (·.2))) (gO i)) := ps_setLc hc hN hy hyl hsw hi ok hg ht he hs
theorem sc_asgO {K : PySem.W.Frag} {E : XK} {te : TE} {Γ : Ctx} {P : Po} {i : Nat} (h : EN K E te Γ (fun ds => P.nx (Γ.set i (.own ds))) P.kx) : SC K E (tAsg te (gO i)) Γ P := sc_asgNew h
end
theorem rd_mulW {K : PySem.W.Frag} {k : D → Prop} {i j : Int} (h : CMulW i j) (hk : k (.int (i * j))) : RD K (rI CMulW fun i j => .int (i * j)) (.int i) (.int j) k := rd_intC h hk
theorem mulW_of {i j : Int} (h1 : -(10 ^ 200) < i ∧ i < 10 ^ 200) (h2 : -(10 ^ 200) < j ∧ j < 10 ^ 200) : CMulW i j := by
  have e : (10 : Nat) ^ 200 < 2 ^ 700 := by decide +kernel
  have key : ∀ {x : Int}, -(10 ^ 200) < x ∧ x < 10 ^ 200 → x.natAbs < 2 ^ 700 := fun {x} h => by
    have h3 : x.natAbs < 10 ^ 200 := by omega
    exact Nat.lt_trans h3 e
  exact wide_mul (key h1) (key h2) (by decide) (by decide) (by decide)
end Z

namespace Z
open PySem PySem.Spec PyProof.Rows L2
/-! ### == of lists of ints -/
theorem pys_ints : ∀ ns : List Int, D.pys (ns.map D.int) = ns.map PyData.int
  | [] => by unfold D.pys; rfl
  | n :: ns => by
    rw [List.map_cons, D.pys, pys_ints ns, D.py]
    rfl
theorem pls_ints : ∀ ns : List Int, D.pls (ns.map D.int) = true
  | [] => by unfold D.pls; rfl
  | n :: ns => by
    rw [List.map_cons, D.pls, pls_ints ns, D.pl]
    rfl
theorem canAll_ints : ∀ ns : List Int, PyData.canLayAll0 (ns.map PyData.int) = true
  | [] => rfl
  | n :: ns => by
    rw [List.map_cons, PyData.canLayAll0, canAll_ints ns]
    rfl
theorem depth_ints : ∀ ns : List Int, PyData.depthAll (ns.map PyData.int) = 0
  | [] => rfl
  | n :: ns => by
    rw [List.map_cons, PyData.depthAll, depth_ints ns]
    rfl
theorem eqvAll_ints : ∀ ns ms : List Int, PyData.eqvAll (ns.map PyData.int) (ms.map PyData.int) = decide (ns = ms)
  | [], [] => rfl
  | [], m :: ms => by
    rw [List.map_cons, List.map_nil, PyData.eqvAll]
    simp
  | n :: ns, [] => by
    rw [List.map_cons, List.map_nil, PyData.eqvAll]
    simp
  | n :: ns, m :: ms => by
    rw [List.map_cons, List.map_cons, PyData.eqvAll, eqvAll_ints ns ms, PyData.eqv]
    by_cases h1 : n = m
    · subst h1
      by_cases h2 : ns = ms
      · subst h2
        simp
      · simp [h2]
    · simp [h1]
theorem shaped_iL (ns : List Int) : SeqAt.shaped (D.lst (ns.map D.int)).py = true := by
  rw [D.py, pys_ints]
  unfold SeqAt.shaped
  rw [PyData.canLay0, canAll_ints, PyData.depth, depth_ints]
  rfl
theorem shaped_int (i : Int) : SeqAt.shaped (D.int i).py = true := by
  rw [D.py]
  rfl
theorem shaped_non : SeqAt.shaped D.non.py = true := by
  rw [D.py]
  rfl
theorem eqv_iL (ns ms : List Int) : PyData.eqv (D.lst (ns.map D.int)).py (D.lst (ms.map D.int)).py = decide (ns = ms) := by
  rw [D.py, D.py, pys_ints, pys_ints, PyData.eqv, eqvAll_ints]
theorem eqv_int (i j : Int) : PyData.eqv (D.int i).py (D.int j).py = decide (i = j) := by
  rw [D.py, D.py, PyData.eqv]
  by_cases h : i = j <;> simp [h]
section
variable {K : PySem.W.Frag} {E : XK} {te ta tb : TE} {tt : TT} {Γ : Ctx} {k : D → Prop} {kx : Addr → D → Prop} {kl : List D → Prop} {vs : List Nat}
theorem rd_eqD {x y : D} (h : x.pl = true ∧ y.pl = true ∧ SeqAt.shaped x.py = true ∧ SeqAt.shaped y.py = true ∧ k (.bl (PyData.eqv x.py y.py))) : RD K (rEqD K) x y k := fun S Q v w ok r1 r2 q =>
  ⟨x.py, y.py, Rp.dp ok h.1 r1, Rp.dp ok h.2.1 r2, h.2.2.1, h.2.2.2.1, q S _ _ (Gr.refl ok) rpb h.2.2.2.2⟩
theorem rd_neD {x y : D} (h : x.pl = true ∧ y.pl = true ∧ SeqAt.shaped x.py = true ∧ SeqAt.shaped y.py = true ∧ k (.bl (!PyData.eqv x.py y.py))) : RD K (rNeD K) x y k := fun S Q v w ok r1 r2 q =>
  ⟨x.py, y.py, Rp.dp ok h.1 r1, Rp.dp ok h.2.1 r2, h.2.2.1, h.2.2.2.1, q S _ _ (Gr.refl ok) rpb h.2.2.2.2⟩
theorem pl_iL (ns : List Int) : (D.lst (ns.map D.int)).pl = true := by rw [D.pl, pls_ints]
theorem pl_int (i : Int) : (D.int i).pl = true := by rw [D.pl]
theorem rd_eqL {ns ms : List Int} (hk : k (.bl (decide (ns = ms)))) : RD K (rEqD K) (.lst (ns.map D.int)) (.lst (ms.map D.int)) k := rd_eqD ⟨pl_iL _, pl_iL _, shaped_iL _, shaped_iL _, by rw [eqv_iL]; exact hk⟩
theorem rd_neL {ns ms : List Int} (hk : k (.bl (!decide (ns = ms)))) : RD K (rNeD K) (.lst (ns.map D.int)) (.lst (ms.map D.int)) k := rd_neD ⟨pl_iL _, pl_iL _, shaped_iL _, shaped_iL _, by rw [eqv_iL]; exact hk⟩
theorem rd_eqDI {i j : Int} (hk : k (.bl (decide (i = j)))) : RD K (rEqD K) (.int i) (.int j) k := rd_eqD ⟨pl_int _, pl_int _, shaped_int _, shaped_int _, by rw [eqv_int]; exact hk⟩
theorem rd_neDI {i j : Int} (hk : k (.bl (!decide (i = j)))) : RD K (rNeD K) (.int i) (.int j) k := rd_neD ⟨pl_int _, pl_int _, shaped_int _, shaped_int _, by rw [eqv_int]; exact hk⟩
/-- == of a list of one's own with data -/
theorem ec_eqLL (h : EL K E ta Γ (fun ds => EL K E tb Γ (fun es => ∃ ns ms : List Int, ds = ns.map D.int ∧ es = ms.map D.int ∧ k (.bl (decide (ns = ms)))) kx) kx) : EC K E (tOp (rEqD K) ta tb) Γ k kx := fun S0 S σ Q e q x =>
  h S0 S σ _ e (fun T p xs ds g hp hm r h2 => h2 S0 T σ _ (e.gr g) (fun U p2 ys es g2 hp2 hm2 r2 ⟨ns, ms, e1, e2, kd⟩ => by
    subst e1 e2
    have hp' := g2.hp _ _ hp hm
    rw [r.ints] at hp'
    rw [r2.ints] at hp2
    have dp : ∀ (a : Addr) (l : List Int), U.H a = some (.lst (l.map V.int)) → Dp K U.H (.ref a) (D.lst (l.map D.int)).py := fun a l ha => by
      rw [D.py]
      exact .lst (SqL.of ha) (RpL.dp (S := U) g2.ok (pls_ints l) (RpL.of_ints l))
    exact ⟨_, _, dp _ _ hp', dp _ _ hp2, shaped_iL _, shaped_iL _, by rw [eqv_iL]; exact q U _ _ (g.trans g2) rpb kd⟩) (x.gr g)) x
theorem ec_neLL (h : EL K E ta Γ (fun ds => EL K E tb Γ (fun es => ∃ ns ms : List Int, ds = ns.map D.int ∧ es = ms.map D.int ∧ k (.bl (!decide (ns = ms)))) kx) kx) : EC K E (tOp (rNeD K) ta tb) Γ k kx := fun S0 S σ Q e q x =>
  h S0 S σ _ e (fun T p xs ds g hp hm r h2 => h2 S0 T σ _ (e.gr g) (fun U p2 ys es g2 hp2 hm2 r2 ⟨ns, ms, e1, e2, kd⟩ => by
    subst e1 e2
    have hp' := g2.hp _ _ hp hm
    rw [r.ints] at hp'
    rw [r2.ints] at hp2
    have dp : ∀ (a : Addr) (l : List Int), U.H a = some (.lst (l.map V.int)) → Dp K U.H (.ref a) (D.lst (l.map D.int)).py := fun a l ha => by
      rw [D.py]
      exact .lst (SqL.of ha) (RpL.dp (S := U) g2.ok (pls_ints l) (RpL.of_ints l))
    exact ⟨_, _, dp _ _ hp', dp _ _ hp2, shaped_iL _, shaped_iL _, by rw [eqv_iL]; exact q U _ _ (g.trans g2) rpb kd⟩) (x.gr g)) x
/-- a comprehension whose elements are known by what is true of them -/
theorem en_lcR {wi : TI} {g : TG} (h : EI K E wi Γ (fun ds => ds.length ≤ 1000000 ∧ ∃ R : D → Prop, (∀ d ∈ ds, GW K vs g d (wipeC Γ vs) fun Δ => EC K E0 te Δ R F0) ∧ ∀ acc : List D, acc.length = ds.length → (∀ d ∈ acc, R d) → kl acc) kx) : EN K E (tLc wi g tYes te vs) Γ kl kx := by
  refine en_lcI (EI.mono h ?_)
  rintro ds ⟨hz, R, hs, hk⟩
  refine ⟨hz, fun i acc => acc.length = i ∧ ∀ d ∈ acc, R d, ⟨rfl, fun _ h => nomatch h⟩, ?_, fun acc ea => hk acc ea.1 ea.2⟩
  rintro i d acc ed ⟨ha, hR⟩ _ S0 S σ v Q e r q
  refine hs d (List.mem_of_getElem? ed) S0 S σ v Q e r fun τ Δ hw e2 h2 => q τ Δ hw e2 (et_yes ?_)
  show EC K E0 te Δ _ F0
  refine h2.mono fun y hy => ⟨by rw [List.length_append, ha]; rfl, fun z hz => ?_⟩
  rcases List.mem_append.mp hz with h | h
  · exact hR z h
  · rw [List.mem_singleton] at h
    rw [h]
    exact hy
end
/-! ### the draws of every law -/
def wpPool : WPN := fun ds q _ => ∃ (ns : List Int) (n : Int), ds = [.scr ns, .int n] ∧ (0 ≤ n ∧ n < 1000) ∧ ∀ x y : Int, 0 ≤ y → y < 4294967296 → q [.int x, .int y]
def wpTake : WP := fun ds q _ => ∃ n : Int, ds = [.pool, .int n] ∧ (0 < n ∧ n < 10 ^ 250) ∧ ∀ r : Int, 0 ≤ r → r < n → q (.int r)
theorem take_ok {n : Int} {q : D → Prop} {kx : Addr → D → Prop} (h0 : 0 < n) (h1 : n < 10 ^ 250) (h : ∀ r : Int, 0 ≤ r → r < n → q (.int r)) : wpTake [.pool, .int n] q kx := ⟨n, rfl, ⟨h0, h1⟩, h⟩
@[reducible] def D.isN : D → Option Bool
  | .non => some true
  | .val _ => none
  | .any => none
  | _ => some false
theorem ec_isN2 {K : PySem.W.Frag} {E : XK} {ta : TE} {Γ : Ctx} {k : D → Prop} {kx : Addr → D → Prop} (h : EC K E ta Γ (fun x => ∃ b, x.isN = some b ∧ k (.bl b)) kx) : EC K E (tIsN ta) Γ k kx := by
  refine ec_isN (h.mono ?_)
  rintro x ⟨b, e, hk⟩
  cases x <;> first | (cases e; exact ⟨hk, trivial⟩) | cases e
theorem ec_notN2 {K : PySem.W.Frag} {E : XK} {ta : TE} {Γ : Ctx} {k : D → Prop} {kx : Addr → D → Prop} (h : EC K E ta Γ (fun x => ∃ b, x.isN = some b ∧ k (.bl (!b))) kx) : EC K E (tNotN ta) Γ k kx := fun S0 S σ Q e q x =>
  h S0 S σ _ e (fun T v d g r ⟨b, ed, kd⟩ => by
    have key : decide (v = V.non) = b := by
      cases d <;> unfold Rp at r <;> first
        | (cases ed; subst r; rfl)
        | (cases ed; obtain ⟨_, _, r, _⟩ := r; subst r; rfl)
        | (cases ed; obtain ⟨_, r, _⟩ := r; subst r; rfl)
        | (cases ed; obtain ⟨_, _, _, r, _⟩ := r; subst r; rfl)
        | cases ed
    show Q (.bl (!decide (v = V.non))) T.H
    rw [key]
    exact q T _ _ g rpb kd) x
end Z

namespace Z
open PySem PySem.Spec PyProof.Rows L2
/-! ### data that may be compared, to a depth -/
structure Nice (n : Nat) (d : D) : Prop where
  pl : d.pl = true
  can : d.py.canLay0 = true
  dep : d.py.depth ≤ n
theorem Nice.shaped {n : Nat} {d : D} (h : Nice n d) (hn : n ≤ 64) : SeqAt.shaped d.py = true := by
  unfold SeqAt.shaped
  rw [h.can, decide_eq_true (Nat.le_trans h.dep hn)]
  rfl
theorem nice_int {n : Nat} (i : Int) : Nice n (.int i) := ⟨by rw [D.pl], by rw [D.py]; rfl, by rw [D.py]; exact Nat.zero_le _⟩
theorem nice_non {n : Nat} : Nice n .non := ⟨by rw [D.pl], by rw [D.py]; rfl, by rw [D.py]; exact Nat.zero_le _⟩
theorem nice_bl {n : Nat} (b : Bool) : Nice n (.bl b) := ⟨by rw [D.pl], by rw [D.py]; rfl, by rw [D.py]; exact Nat.zero_le _⟩
theorem nice_all {n : Nat} : ∀ {ds : List D}, (∀ d ∈ ds, Nice n d) → D.pls ds = true ∧ PyData.canLayAll0 (D.pys ds) = true ∧ PyData.depthAll (D.pys ds) ≤ n
  | [], _ => ⟨by rw [D.pls], by rw [D.pys]; rfl, by rw [D.pys]; exact Nat.zero_le _⟩
  | d :: ds, h => by
    have h1 := h d List.mem_cons_self
    obtain ⟨a, b, c⟩ := nice_all (ds := ds) fun e he => h e (List.mem_cons_of_mem _ he)
    refine ⟨?_, ?_, ?_⟩
    · rw [D.pls, h1.pl, a]
      rfl
    · rw [D.pys, PyData.canLayAll0, h1.can, b]
      rfl
    · rw [D.pys, PyData.depthAll]
      exact Nat.max_le.mpr ⟨h1.dep, c⟩
theorem nice_lst {n : Nat} {ds : List D} (h : ∀ d ∈ ds, Nice n d) : Nice (n + 1) (.lst ds) := by
  obtain ⟨a, b, c⟩ := nice_all h
  refine ⟨by rw [D.pl, a], by rw [D.py, PyData.canLay0, b], ?_⟩
  rw [D.py, PyData.depth]
  omega
theorem nice_tup {n : Nat} {ds : List D} (h : ∀ d ∈ ds, Nice n d) : Nice (n + 1) (.tup ds) := by
  obtain ⟨a, b, c⟩ := nice_all h
  refine ⟨by rw [D.pl, a], by rw [D.py, PyData.canLay0, b], ?_⟩
  rw [D.py, PyData.depth]
  omega
theorem nice_iL {n : Nat} (ns : List Int) : Nice (n + 1) (.lst (ns.map D.int)) := nice_lst fun d hd => by
  obtain ⟨i, _, rfl⟩ := List.mem_map.mp hd
  exact nice_int i
theorem nice_two {n : Nat} {a b : D} (ha : Nice n a) (hb : Nice n b) : ∀ d ∈ [a, b], Nice n d := fun d hd => by
  rcases List.mem_cons.mp hd with e | hd
  · rw [e]; exact ha
  · rw [List.mem_singleton.mp hd]; exact hb
theorem Nice.refl {n : Nat} {d : D} (h : Nice n d) : PyData.eqv d.py d.py = true := SeqAt.eqv_refl d.py h.can
section
variable {K : PySem.W.Frag} {k : D → Prop}
/-- != of equal data -/
theorem rd_neSame {x y : D} {n : Nat} (e : x = y) (h : Nice n x) (hn : n ≤ 64) (hk : k (.bl false)) : RD K (rNeD K) x y k := by
  subst e
  exact rd_neD ⟨h.pl, h.pl, h.shaped hn, h.shaped hn, by rw [h.refl]; exact hk⟩
theorem rd_eqSame {x y : D} {n : Nat} (e : x = y) (h : Nice n x) (hn : n ≤ 64) (hk : k (.bl true)) : RD K (rEqD K) x y k := by
  subst e
  exact rd_eqD ⟨h.pl, h.pl, h.shaped hn, h.shaped hn, by rw [h.refl]; exact hk⟩
theorem dec_vb {i j : Bool} : decide (V.bl i = V.bl j) = decide (i = j) := by
  by_cases h : i = j
  · subst h
    simp
  · rw [decide_eq_false h]
    exact decide_eq_false fun z => h (V.bl.inj z)
theorem rd_eqB {i j : Bool} (hk : k (.bl (decide (i = j)))) : RD K rEq (.bl i) (.bl j) k := fun S Q v w ok r1 r2 q => by
  unfold Rp at r1 r2
  rw [r1, r2]
  exact ⟨rfl, by rw [dec_vb]; exact q S _ _ (Gr.refl ok) (by unfold Rp; rfl) hk⟩
theorem rd_neB {i j : Bool} (hk : k (.bl (!decide (i = j)))) : RD K rNe (.bl i) (.bl j) k := fun S Q v w ok r1 r2 q => by
  unfold Rp at r1 r2
  rw [r1, r2]
  exact ⟨rfl, by rw [dec_vb]; exact q S _ _ (Gr.refl ok) (by unfold Rp; rfl) hk⟩
theorem cut_init {α : Type} (xs : List α) : cut xs none (some (-1)) = xs.dropLast := by
  have h := cut_butlast xs 0
  rw [List.drop_zero] at h
  rw [← h]
  unfold cut
  rw [HT.sIx_none, HT.sIx_nat, Nat.zero_min]
end
end Z

namespace My
open PySem PySem.Spec PyProof.Rows L2 Z
def topS (i : Nat) : Stmt := PySem.Challenge.pw_firenegatives_k22_whole_lines_turned.main.body.getD i (.Pass ⟨0, 0, 0, 0⟩)
local macro_rules | `(tactic| walk_at "z1") => `(tactic| first | ((with_reducible refine' ec_var ?zh ?_); (case zh => exact rfl)) | (with_reducible apply ec_int) | (with_reducible apply ec_bl) | (with_reducible apply ec_str) | (with_reducible apply ec_non) | (with_reducible apply ec_val) | ((with_reducible refine' ec_pool0 ?_); ((with_reducible refine' ec_var ?zh ?_); (case zh => exact rfl)); refine ⟨rfl, ?_⟩; intro zz) | ((with_reducible refine' ec_pool1 ?_); ((with_reducible refine' ec_var ?zh ?_); (case zh => exact rfl)); refine ⟨rfl, ?_⟩; intro zz zz0 zz1) | ((with_reducible refine' ec_ixScr ?_); ((with_reducible refine' ec_var ?zh ?_); (case zh => exact rfl)); refine ⟨_, rfl, ?_⟩) | (with_reducible apply ec_ix) | (with_reducible apply ec_ixT) | (with_reducible apply ec_chain) | ((with_reducible refine' ec_new ?_); (first | (with_reducible apply en_call0) | (with_reducible apply en_lst) | (with_reducible apply en_slice) | (with_reducible apply en_cat) | (with_reducible apply en_rep) | (with_reducible apply en_list) | (with_reducible apply en_sorted) | (with_reducible apply en_revL) | (with_reducible apply en_map) | (with_reducible apply en_lc))) | (with_reducible apply ec_op) | (with_reducible apply ec_andV) | (with_reducible apply ec_orV) | (with_reducible apply ec_notV) | (with_reducible apply ec_if) | (with_reducible apply ec_isN2) | (with_reducible apply ec_notN2) | (with_reducible apply ec_tup) | (with_reducible apply ec_call0) | ((with_reducible refine' ec_lenS ?_); ((with_reducible refine' ec_var ?zh ?_); (case zh => exact rfl)); refine ⟨_, rfl, ?_⟩) | (with_reducible apply ec_len) | (with_reducible apply ec_isi) | (with_reducible apply ec_sum) | (with_reducible apply ec_max) | (with_reducible apply ec_min) | (with_reducible apply ec_any) | (with_reducible apply ec_all) | (with_reducible apply ec_anyI) | (with_reducible apply ec_abs) | (with_reducible apply ec_max2) | (with_reducible apply ec_min2) | (with_reducible apply ec_intB) | (with_reducible apply ec_neg) | (with_reducible apply rd_int) | (with_reducible apply rd_bool) | (with_reducible apply rd_eqI) | (with_reducible apply rd_neI) | (with_reducible apply rd_eqS) | (with_reducible apply rd_neS) | (with_reducible apply rd_eqB) | (with_reducible apply rd_neB) | (with_reducible apply rd_eqL) | (with_reducible apply rd_neL) | (with_reducible apply rd_eqDI) | (with_reducible apply rd_neDI) | ((with_reducible refine' rd_mod ?zh ?_); (case zh => first | (with_reducible assumption) | omega | (simp only [List.length_map, List.length_range, List.length_zipIdx, List.length_zip, List.length_append, List.length_cons, List.length_nil]; omega))) | ((with_reducible refine' rd_fdiv ?zh ?zi ?_); (case zh => first | (with_reducible assumption) | omega | (simp only [List.length_map, List.length_range, List.length_zipIdx, List.length_zip, List.length_append, List.length_cons, List.length_nil]; omega)); (case zi => first | (with_reducible assumption) | omega | (simp only [List.length_map, List.length_range, List.length_zipIdx, List.length_zip, List.length_append, List.length_cons, List.length_nil]; omega))) | ((with_reducible refine' rd_mulR ?zh ?_); (case zh => first | (with_reducible assumption) | omega | (simp only [List.length_map, List.length_range, List.length_zipIdx, List.length_zip, List.length_append, List.length_cons, List.length_nil]; omega))) | ((with_reducible refine' rd_mulW ?zh ?_); (case zh => with_reducible assumption)) | ((with_reducible refine' rd_mulL ?zh ?_); (case zh => first | (with_reducible assumption) | omega | (simp only [List.length_map, List.length_range, List.length_zipIdx, List.length_zip, List.length_append, List.length_cons, List.length_nil]; omega))) | ((with_reducible refine' rd_pow ?zh ?_); (case zh => exact ⟨by decide, by decide, by decide⟩); (try simp only [Int.reduceToNat, Int.reducePow])) | (with_reducible apply sc_seqR) | (with_reducible apply sc_seqN) | ((fail_if_success (with_reducible apply sc_seqI)); with_reducible apply sc_seq) | (with_reducible apply sc_next) | (with_reducible apply sc_if) | (with_reducible apply sc_pool0) | (with_reducible apply sc_pool1) | ((with_reducible refine' sc_append ?zh ?zi ?_); (case zh => exact rfl); (case zi => first | (with_reducible assumption) | omega | exact Nat.le_of_ble_eq_true rfl | decide | (simp only [List.length_map, List.length_range, List.length_zipIdx, List.length_zip, List.length_append, List.length_cons, List.length_nil]; omega) | (refine ⟨?_, ?_⟩ <;> omega) | (refine ⟨?_, ?_, ?_⟩ <;> first | omega | decide))) | ((with_reducible refine' sc_setItem ?zh ?_); (case zh => exact rfl)) | ((with_reducible refine' sc_asgO ?_); (first | (with_reducible apply en_call0) | (with_reducible apply en_lst) | (with_reducible apply en_slice) | (with_reducible apply en_cat) | (with_reducible apply en_rep) | (with_reducible apply en_list) | (with_reducible apply en_sorted) | (with_reducible apply en_revL) | (with_reducible apply en_map) | (with_reducible apply en_lc))) | (with_reducible apply sc_asg) | (with_reducible apply sc_par) | (with_reducible apply sc_asgG) | ((with_reducible refine' sc_aug ?zh ?_); (case zh => exact rfl)) | ((with_reducible refine' sc_retOwn ?zh ?_); (case zh => exact rfl)) | ((with_reducible refine' sc_retNew ?_); (first | (with_reducible apply en_call0) | (with_reducible apply en_lst) | (with_reducible apply en_slice) | (with_reducible apply en_cat) | (with_reducible apply en_rep) | (with_reducible apply en_list) | (with_reducible apply en_sorted) | (with_reducible apply en_revL) | (with_reducible apply en_map) | (with_reducible apply en_lc))) | (with_reducible apply sc_ret) | (with_reducible apply sc_retN) | (with_reducible apply sc_drop) | (with_reducible apply et_test) | (with_reducible apply et_B) | (with_reducible apply et_not) | (with_reducible apply et_and) | (with_reducible apply et_or) | (with_reducible apply et_yes) | (with_reducible apply ea_nil) | (with_reducible apply ea_cons) | (with_reducible apply eo_none) | (with_reducible apply eo_some) | ((with_reducible refine' el_own ?zh ?_); (case zh => exact rfl)) | ((with_reducible refine' el_var ?zh ?_); (case zh => exact rfl)) | ((with_reducible refine' el_new ?_); (first | (with_reducible apply en_call0) | (with_reducible apply en_lst) | (with_reducible apply en_slice) | (with_reducible apply en_cat) | (with_reducible apply en_rep) | (with_reducible apply en_list) | (with_reducible apply en_sorted) | (with_reducible apply en_revL) | (with_reducible apply en_map) | (with_reducible apply en_lc))) | ((with_reducible refine' el_dat ?_); first | ((with_reducible refine' ec_var ?zh ?_); (case zh => exact rfl)) | (with_reducible apply ec_int) | (with_reducible apply ec_bl) | (with_reducible apply ec_str) | (with_reducible apply ec_non) | (with_reducible apply ec_val) | ((with_reducible refine' ec_pool0 ?_); ((with_reducible refine' ec_var ?zh ?_); (case zh => exact rfl)); refine ⟨rfl, ?_⟩; intro zz) | ((with_reducible refine' ec_pool1 ?_); ((with_reducible refine' ec_var ?zh ?_); (case zh => exact rfl)); refine ⟨rfl, ?_⟩; intro zz zz0 zz1) | ((with_reducible refine' ec_ixScr ?_); ((with_reducible refine' ec_var ?zh ?_); (case zh => exact rfl)); refine ⟨_, rfl, ?_⟩) | (with_reducible apply ec_ix) | (with_reducible apply ec_ixT) | (with_reducible apply ec_chain) | ((with_reducible refine' ec_new ?_); (first | (with_reducible apply en_call0) | (with_reducible apply en_lst) | (with_reducible apply en_slice) | (with_reducible apply en_cat) | (with_reducible apply en_rep) | (with_reducible apply en_list) | (with_reducible apply en_sorted) | (with_reducible apply en_revL) | (with_reducible apply en_map) | (with_reducible apply en_lc))) | (with_reducible apply ec_op) | (with_reducible apply ec_andV) | (with_reducible apply ec_orV) | (with_reducible apply ec_notV) | (with_reducible apply ec_if) | (with_reducible apply ec_isN2) | (with_reducible apply ec_notN2) | (with_reducible apply ec_tup) | (with_reducible apply ec_call0) | ((with_reducible refine' ec_lenS ?_); ((with_reducible refine' ec_var ?zh ?_); (case zh => exact rfl)); refine ⟨_, rfl, ?_⟩) | (with_reducible apply ec_len) | (with_reducible apply ec_isi) | (with_reducible apply ec_sum) | (with_reducible apply ec_max) | (with_reducible apply ec_min) | (with_reducible apply ec_any) | (with_reducible apply ec_all) | (with_reducible apply ec_anyI) | (with_reducible apply ec_abs) | (with_reducible apply ec_max2) | (with_reducible apply ec_min2) | (with_reducible apply ec_intB) | (with_reducible apply ec_neg)) | (with_reducible apply ei_list) | (with_reducible apply ei_range1) | (with_reducible apply ei_range2) | (with_reducible apply ei_enum) | (with_reducible apply ei_zip) | (with_reducible apply ei_tup) | (with_reducible apply gc_name) | ((with_reducible refine' gc_tup ?zh ?_); (case zh => exact rfl)) | (with_reducible apply gcs_cons) | (with_reducible apply gcs_nil) | ((with_reducible refine' gw_name ?zh ?_); (case zh => decide)) | ((with_reducible refine' gw_tup ?zh ?_); (case zh => exact rfl)) | (with_reducible apply gws_cons) | (with_reducible apply gws_nil) | (refine ⟨"list", true, rfl, isi_ll, ?_⟩) | (refine ⟨"int", true, rfl, isi_ii, ?_⟩) | (refine ⟨"int", false, rfl, isi_ib, ?_⟩) | (with_reducible exact ⟨_, rfl, rfl⟩) | (with_reducible refine ⟨_, rfl, ?_⟩) | (with_reducible refine ⟨_, _, rfl, ?_⟩) | (with_reducible refine ⟨_, _, _, rfl, ?_⟩) | (with_reducible refine ⟨rfl, ?_⟩) | ((with_reducible refine And.intro ?zh ?_); (case zh => first | (with_reducible assumption) | omega | exact Nat.le_of_ble_eq_true rfl | decide | (simp only [List.length_map, List.length_range, List.length_zipIdx, List.length_zip, List.length_append, List.length_cons, List.length_nil]; omega) | (refine ⟨?_, ?_⟩ <;> omega) | (refine ⟨?_, ?_, ?_⟩ <;> first | omega | decide))) | ((with_reducible refine' take_ok ?zh ?zi ?_); (case zh => first | (with_reducible assumption) | omega | (simp only [List.length_map, List.length_range, List.length_zipIdx, List.length_zip, List.length_append, List.length_cons, List.length_nil]; omega)); (case zi => first | (with_reducible assumption) | omega | (simp only [List.length_map, List.length_range, List.length_zipIdx, List.length_zip, List.length_append, List.length_cons, List.length_nil]; omega)); intro rr rr0 rr1) | (with_reducible refine L2.iteT ?_) | (with_reducible refine L2.iteF ?_) | ((with_reducible refine' ite_dT ?zh ?_); (case zh => first | omega | (simp only [List.length_map, List.length_range, List.length_zipIdx, List.length_zip, List.length_append, List.length_cons, List.length_nil]; omega))) | ((with_reducible refine' ite_dF ?zh ?_); (case zh => first | omega | (simp only [List.length_map, List.length_range, List.length_zipIdx, List.length_zip, List.length_append, List.length_cons, List.length_nil]; omega))) | ((with_reducible refine' ite_nT ?zh ?_); (case zh => first | omega | (simp only [List.length_map, List.length_range, List.length_zipIdx, List.length_zip, List.length_append, List.length_cons, List.length_nil]; omega))) | ((with_reducible refine' ite_nF ?zh ?_); (case zh => first | omega | (simp only [List.length_map, List.length_range, List.length_zipIdx, List.length_zip, List.length_append, List.length_cons, List.length_nil]; omega))) | (with_reducible refine iteNTF ?_) | (with_reducible refine iteNFT ?_) | (with_reducible exact rfl))
local macro_rules | `(tactic| walk_at "z") => `(tactic| repeat (first | ((with_reducible refine' ec_var ?zh ?_); (case zh => exact rfl)) | (with_reducible apply ec_int) | (with_reducible apply ec_bl) | (with_reducible apply ec_str) | (with_reducible apply ec_non) | (with_reducible apply ec_val) | ((with_reducible refine' ec_pool0 ?_); ((with_reducible refine' ec_var ?zh ?_); (case zh => exact rfl)); refine ⟨rfl, ?_⟩; intro zz) | ((with_reducible refine' ec_pool1 ?_); ((with_reducible refine' ec_var ?zh ?_); (case zh => exact rfl)); refine ⟨rfl, ?_⟩; intro zz zz0 zz1) | ((with_reducible refine' ec_ixScr ?_); ((with_reducible refine' ec_var ?zh ?_); (case zh => exact rfl)); refine ⟨_, rfl, ?_⟩) | (with_reducible apply ec_ix) | (with_reducible apply ec_ixT) | (with_reducible apply ec_chain) | ((with_reducible refine' ec_new ?_); (first | (with_reducible apply en_call0) | (with_reducible apply en_lst) | (with_reducible apply en_slice) | (with_reducible apply en_cat) | (with_reducible apply en_rep) | (with_reducible apply en_list) | (with_reducible apply en_sorted) | (with_reducible apply en_revL) | (with_reducible apply en_map) | (with_reducible apply en_lc))) | (with_reducible apply ec_op) | (with_reducible apply ec_andV) | (with_reducible apply ec_orV) | (with_reducible apply ec_notV) | (with_reducible apply ec_if) | (with_reducible apply ec_isN2) | (with_reducible apply ec_notN2) | (with_reducible apply ec_tup) | (with_reducible apply ec_call0) | ((with_reducible refine' ec_lenS ?_); ((with_reducible refine' ec_var ?zh ?_); (case zh => exact rfl)); refine ⟨_, rfl, ?_⟩) | (with_reducible apply ec_len) | (with_reducible apply ec_isi) | (with_reducible apply ec_sum) | (with_reducible apply ec_max) | (with_reducible apply ec_min) | (with_reducible apply ec_any) | (with_reducible apply ec_all) | (with_reducible apply ec_anyI) | (with_reducible apply ec_abs) | (with_reducible apply ec_max2) | (with_reducible apply ec_min2) | (with_reducible apply ec_intB) | (with_reducible apply ec_neg) | (with_reducible apply rd_int) | (with_reducible apply rd_bool) | (with_reducible apply rd_eqI) | (with_reducible apply rd_neI) | (with_reducible apply rd_eqS) | (with_reducible apply rd_neS) | (with_reducible apply rd_eqB) | (with_reducible apply rd_neB) | (with_reducible apply rd_eqL) | (with_reducible apply rd_neL) | (with_reducible apply rd_eqDI) | (with_reducible apply rd_neDI) | ((with_reducible refine' rd_mod ?zh ?_); (case zh => first | (with_reducible assumption) | omega | (simp only [List.length_map, List.length_range, List.length_zipIdx, List.length_zip, List.length_append, List.length_cons, List.length_nil]; omega))) | ((with_reducible refine' rd_fdiv ?zh ?zi ?_); (case zh => first | (with_reducible assumption) | omega | (simp only [List.length_map, List.length_range, List.length_zipIdx, List.length_zip, List.length_append, List.length_cons, List.length_nil]; omega)); (case zi => first | (with_reducible assumption) | omega | (simp only [List.length_map, List.length_range, List.length_zipIdx, List.length_zip, List.length_append, List.length_cons, List.length_nil]; omega))) | ((with_reducible refine' rd_mulR ?zh ?_); (case zh => first | (with_reducible assumption) | omega | (simp only [List.length_map, List.length_range, List.length_zipIdx, List.length_zip, List.length_append, List.length_cons, List.length_nil]; omega))) | ((with_reducible refine' rd_mulW ?zh ?_); (case zh => with_reducible assumption)) | ((with_reducible refine' rd_mulL ?zh ?_); (case zh => first | (with_reducible assumption) | omega | (simp only [List.length_map, List.length_range, List.length_zipIdx, List.length_zip, List.length_append, List.length_cons, List.length_nil]; omega))) | ((with_reducible refine' rd_pow ?zh ?_); (case zh => exact ⟨by decide, by decide, by decide⟩); (try simp only [Int.reduceToNat, Int.reducePow])) | (with_reducible apply sc_seqR) | (with_reducible apply sc_seqN) | ((fail_if_success (with_reducible apply sc_seqI)); with_reducible apply sc_seq) | (with_reducible apply sc_next) | (with_reducible apply sc_if) | (with_reducible apply sc_pool0) | (with_reducible apply sc_pool1) | ((with_reducible refine' sc_append ?zh ?zi ?_); (case zh => exact rfl); (case zi => first | (with_reducible assumption) | omega | exact Nat.le_of_ble_eq_true rfl | decide | (simp only [List.length_map, List.length_range, List.length_zipIdx, List.length_zip, List.length_append, List.length_cons, List.length_nil]; omega) | (refine ⟨?_, ?_⟩ <;> omega) | (refine ⟨?_, ?_, ?_⟩ <;> first | omega | decide))) | ((with_reducible refine' sc_setItem ?zh ?_); (case zh => exact rfl)) | ((with_reducible refine' sc_asgO ?_); (first | (with_reducible apply en_call0) | (with_reducible apply en_lst) | (with_reducible apply en_slice) | (with_reducible apply en_cat) | (with_reducible apply en_rep) | (with_reducible apply en_list) | (with_reducible apply en_sorted) | (with_reducible apply en_revL) | (with_reducible apply en_map) | (with_reducible apply en_lc))) | (with_reducible apply sc_asg) | (with_reducible apply sc_par) | (with_reducible apply sc_asgG) | ((with_reducible refine' sc_aug ?zh ?_); (case zh => exact rfl)) | ((with_reducible refine' sc_retOwn ?zh ?_); (case zh => exact rfl)) | ((with_reducible refine' sc_retNew ?_); (first | (with_reducible apply en_call0) | (with_reducible apply en_lst) | (with_reducible apply en_slice) | (with_reducible apply en_cat) | (with_reducible apply en_rep) | (with_reducible apply en_list) | (with_reducible apply en_sorted) | (with_reducible apply en_revL) | (with_reducible apply en_map) | (with_reducible apply en_lc))) | (with_reducible apply sc_ret) | (with_reducible apply sc_retN) | (with_reducible apply sc_drop) | (with_reducible apply et_test) | (with_reducible apply et_B) | (with_reducible apply et_not) | (with_reducible apply et_and) | (with_reducible apply et_or) | (with_reducible apply et_yes) | (with_reducible apply ea_nil) | (with_reducible apply ea_cons) | (with_reducible apply eo_none) | (with_reducible apply eo_some) | ((with_reducible refine' el_own ?zh ?_); (case zh => exact rfl)) | ((with_reducible refine' el_var ?zh ?_); (case zh => exact rfl)) | ((with_reducible refine' el_new ?_); (first | (with_reducible apply en_call0) | (with_reducible apply en_lst) | (with_reducible apply en_slice) | (with_reducible apply en_cat) | (with_reducible apply en_rep) | (with_reducible apply en_list) | (with_reducible apply en_sorted) | (with_reducible apply en_revL) | (with_reducible apply en_map) | (with_reducible apply en_lc))) | ((with_reducible refine' el_dat ?_); first | ((with_reducible refine' ec_var ?zh ?_); (case zh => exact rfl)) | (with_reducible apply ec_int) | (with_reducible apply ec_bl) | (with_reducible apply ec_str) | (with_reducible apply ec_non) | (with_reducible apply ec_val) | ((with_reducible refine' ec_pool0 ?_); ((with_reducible refine' ec_var ?zh ?_); (case zh => exact rfl)); refine ⟨rfl, ?_⟩; intro zz) | ((with_reducible refine' ec_pool1 ?_); ((with_reducible refine' ec_var ?zh ?_); (case zh => exact rfl)); refine ⟨rfl, ?_⟩; intro zz zz0 zz1) | ((with_reducible refine' ec_ixScr ?_); ((with_reducible refine' ec_var ?zh ?_); (case zh => exact rfl)); refine ⟨_, rfl, ?_⟩) | (with_reducible apply ec_ix) | (with_reducible apply ec_ixT) | (with_reducible apply ec_chain) | ((with_reducible refine' ec_new ?_); (first | (with_reducible apply en_call0) | (with_reducible apply en_lst) | (with_reducible apply en_slice) | (with_reducible apply en_cat) | (with_reducible apply en_rep) | (with_reducible apply en_list) | (with_reducible apply en_sorted) | (with_reducible apply en_revL) | (with_reducible apply en_map) | (with_reducible apply en_lc))) | (with_reducible apply ec_op) | (with_reducible apply ec_andV) | (with_reducible apply ec_orV) | (with_reducible apply ec_notV) | (with_reducible apply ec_if) | (with_reducible apply ec_isN2) | (with_reducible apply ec_notN2) | (with_reducible apply ec_tup) | (with_reducible apply ec_call0) | ((with_reducible refine' ec_lenS ?_); ((with_reducible refine' ec_var ?zh ?_); (case zh => exact rfl)); refine ⟨_, rfl, ?_⟩) | (with_reducible apply ec_len) | (with_reducible apply ec_isi) | (with_reducible apply ec_sum) | (with_reducible apply ec_max) | (with_reducible apply ec_min) | (with_reducible apply ec_any) | (with_reducible apply ec_all) | (with_reducible apply ec_anyI) | (with_reducible apply ec_abs) | (with_reducible apply ec_max2) | (with_reducible apply ec_min2) | (with_reducible apply ec_intB) | (with_reducible apply ec_neg)) | (with_reducible apply ei_list) | (with_reducible apply ei_range1) | (with_reducible apply ei_range2) | (with_reducible apply ei_enum) | (with_reducible apply ei_zip) | (with_reducible apply ei_tup) | (with_reducible apply gc_name) | ((with_reducible refine' gc_tup ?zh ?_); (case zh => exact rfl)) | (with_reducible apply gcs_cons) | (with_reducible apply gcs_nil) | ((with_reducible refine' gw_name ?zh ?_); (case zh => decide)) | ((with_reducible refine' gw_tup ?zh ?_); (case zh => exact rfl)) | (with_reducible apply gws_cons) | (with_reducible apply gws_nil) | (refine ⟨"list", true, rfl, isi_ll, ?_⟩) | (refine ⟨"int", true, rfl, isi_ii, ?_⟩) | (refine ⟨"int", false, rfl, isi_ib, ?_⟩) | (with_reducible exact ⟨_, rfl, rfl⟩) | (with_reducible refine ⟨_, rfl, ?_⟩) | (with_reducible refine ⟨_, _, rfl, ?_⟩) | (with_reducible refine ⟨_, _, _, rfl, ?_⟩) | (with_reducible refine ⟨rfl, ?_⟩) | ((with_reducible refine And.intro ?zh ?_); (case zh => first | (with_reducible assumption) | omega | exact Nat.le_of_ble_eq_true rfl | decide | (simp only [List.length_map, List.length_range, List.length_zipIdx, List.length_zip, List.length_append, List.length_cons, List.length_nil]; omega) | (refine ⟨?_, ?_⟩ <;> omega) | (refine ⟨?_, ?_, ?_⟩ <;> first | omega | decide))) | ((with_reducible refine' take_ok ?zh ?zi ?_); (case zh => first | (with_reducible assumption) | omega | (simp only [List.length_map, List.length_range, List.length_zipIdx, List.length_zip, List.length_append, List.length_cons, List.length_nil]; omega)); (case zi => first | (with_reducible assumption) | omega | (simp only [List.length_map, List.length_range, List.length_zipIdx, List.length_zip, List.length_append, List.length_cons, List.length_nil]; omega)); intro rr rr0 rr1) | (with_reducible refine L2.iteT ?_) | (with_reducible refine L2.iteF ?_) | ((with_reducible refine' ite_dT ?zh ?_); (case zh => first | omega | (simp only [List.length_map, List.length_range, List.length_zipIdx, List.length_zip, List.length_append, List.length_cons, List.length_nil]; omega))) | ((with_reducible refine' ite_dF ?zh ?_); (case zh => first | omega | (simp only [List.length_map, List.length_range, List.length_zipIdx, List.length_zip, List.length_append, List.length_cons, List.length_nil]; omega))) | ((with_reducible refine' ite_nT ?zh ?_); (case zh => first | omega | (simp only [List.length_map, List.length_range, List.length_zipIdx, List.length_zip, List.length_append, List.length_cons, List.length_nil]; omega))) | ((with_reducible refine' ite_nF ?zh ?_); (case zh => first | omega | (simp only [List.length_map, List.length_range, List.length_zipIdx, List.length_zip, List.length_append, List.length_cons, List.length_nil]; omega))) | (with_reducible refine iteNTF ?_) | (with_reducible refine iteNFT ?_) | (with_reducible exact rfl)))
local macro_rules | `(tactic| walk_at "side") => `(tactic| first | (with_reducible assumption) | omega | exact Nat.le_of_ble_eq_true rfl | decide | (simp only [List.length_map, List.length_range, List.length_zipIdx, List.length_zip, List.length_append, List.length_cons, List.length_nil]; omega) | (refine ⟨?_, ?_⟩ <;> omega) | (refine ⟨?_, ?_, ?_⟩ <;> first | omega | decide))

def sums : Int → List Int → List Int
  | c, [] => [c]
  | c, x :: l => c :: sums (c + x) l
theorem sums_len : ∀ (c : Int) (l : List Int), (sums c l).length = l.length + 1
  | c, [] => rfl
  | c, x :: l => by rw [sums, List.length_cons, sums_len, List.length_cons]
theorem sums_snoc : ∀ (c : Int) (l : List Int) (x : Int), sums c (l ++ [x]) = sums c l ++ [c + l.sum + x]
  | c, [], x => by simp [sums]
  | c, y :: l, x => by
    rw [List.cons_append, sums, sums, sums_snoc, List.sum_cons, List.cons_append]
    congr 4
    omega
theorem sums_last : ∀ (c : Int) (l : List Int), ∃ i, sums c l = i ++ [c + l.sum]
  | c, [] => ⟨[], by simp [sums]⟩
  | c, y :: l => by
    obtain ⟨i, h⟩ := sums_last (c + y) l
    refine ⟨c :: i, ?_⟩
    rw [sums, h, List.sum_cons, List.cons_append]
    congr 3
    omega
def diffs (l : List Int) : List Int := (l.zip (l.drop 1)).map fun p => p.2 - p.1
def srt (l : List Int) : List Int := l.mergeSort fun a b => decide (a ≤ b)
theorem srt_perm (l : List Int) : (srt l).Perm l := List.mergeSort_perm _ _
theorem srt_sorted (l : List Int) : (srt l).Pairwise (· ≤ ·) := by
  have h := List.pairwise_mergeSort (le := fun a b : Int => decide (a ≤ b)) (fun a b c h1 h2 => by
    rw [decide_eq_true_eq] at h1 h2 ⊢
    omega) (fun a b => by
    rw [Bool.or_eq_true, decide_eq_true_eq, decide_eq_true_eq]
    omega) l
  exact h.imp fun hab => of_decide_eq_true hab
theorem srt_eq {l l' : List Int} (h : l'.Perm l) (hs : l'.Pairwise (· ≤ ·)) : l' = srt l :=
  (h.trans (srt_perm l).symm).eq_of_pairwise (fun a b _ _ h1 h2 => Int.le_antisymm h1 h2) hs (srt_sorted l)
def invs (l : List Int) : List Int := l.zipIdx.map fun p => ((((l.drop p.2).filter fun t => decide (t < p.1)).length : Nat) : Int)
def pathSteps (ns : List Int) : Int := (invs (sums 0 ns)).sum
def pathEnd (ns : List Int) : List Int := diffs (srt (sums 0 ns))
def arcN (ns : List Int) (s k : Nat) : Int := ((List.range k).map fun q => ns.getD ((s + q) % ns.length) 0).sum
def arcs (ns : List Int) : List Int := (List.range ns.length).flatMap fun s => (List.range (ns.length - 1)).map fun q => arcN ns s (q + 1)
theorem arcN_succ (ns : List Int) (s k : Nat) : arcN ns s (k + 1) = arcN ns s k + ns.getD ((s + k) % ns.length) 0 := by
  unfold arcN
  rw [List.range_succ, List.map_append, List.sum_append]
  simp
theorem flat_len (m : Nat) (g : Nat → Nat → Int) : ∀ i : Nat, ((List.range i).flatMap fun s => (List.range m).map (g s)).length = i * m
  | 0 => by simp
  | i + 1 => by
    rw [List.range_succ, List.flatMap_append, List.length_append, flat_len m g i]
    simp [Nat.succ_mul]
theorem arcs_len (ns : List Int) : (arcs ns).length = ns.length * (ns.length - 1) := flat_len _ _ _
def cycleSteps (ns : List Int) : Option Int :=
  if ns.sum ≤ 0 then (if (ns.any fun n => n != 0) = true then none else some 0) else some (((arcs ns).filter fun a => decide (a < 0)).map fun a => (ns.sum - 1 - a) / ns.sum).sum
def window (T : Int) (s : List Int) : List Int :=
  let rests := srt (s.map fun x => x % T)
  let shift := (s.sum - rests.sum) / T
  let turns := shift / (s.length : Int)
  let place := (shift % (s.length : Int)).toNat
  (rests.drop place).map (fun r => r + turns * T) ++ (rests.take place).map (fun r => r + (turns + 1) * T)
def cycleEnd (ns : List Int) : Option (List Int) :=
  if ns.sum ≤ 0 then (if (ns.any fun n => n != 0) = true then none else some ns) else
    let w := window ns.sum ((sums 0 ns).take ns.length)
    some (diffs (w ++ [w.getD 0 0 + ns.sum]))
theorem perm_sum {l l' : List Int} (h : l.Perm l') : l.sum = l'.sum := by
  induction h with
  | nil => rfl
  | cons x _ ih => rw [List.sum_cons, List.sum_cons, ih]
  | swap x y l => rw [List.sum_cons, List.sum_cons, List.sum_cons, List.sum_cons]; omega
  | trans _ _ ih1 ih2 => rw [ih1, ih2]
theorem sum_bd {B : Int} : ∀ {l : List Int}, (∀ n ∈ l, -B ≤ n ∧ n ≤ B) → -((l.length : Int) * B) ≤ l.sum ∧ l.sum ≤ (l.length : Int) * B
  | [], _ => by simp
  | x :: l, h => by
    have h1 := h x List.mem_cons_self
    have h2 := sum_bd (l := l) fun n hn => h n (List.mem_cons_of_mem _ hn)
    rw [List.sum_cons, List.length_cons, Int.natCast_add, Int.add_mul]
    omega
theorem sums_bd {B : Int} (hB : 0 ≤ B) : ∀ {c : Int} {l : List Int} {C : Int}, (-C ≤ c ∧ c ≤ C) → (∀ n ∈ l, -B ≤ n ∧ n ≤ B) → ∀ x ∈ sums c l, -(C + (l.length : Int) * B) ≤ x ∧ x ≤ C + (l.length : Int) * B
  | c, [], C, hc, _, x, hx => by
    rw [sums, List.mem_singleton] at hx
    subst hx
    simp
    omega
  | c, y :: l, C, hc, h, x, hx => by
    rw [sums, List.mem_cons] at hx
    have h1 := h y List.mem_cons_self
    have hl : 0 ≤ (l.length : Int) * B := Int.mul_nonneg (by omega) hB
    rw [List.length_cons, Int.natCast_add, Int.add_mul]
    rcases hx with e | hx
    · subst e
      omega
    · have h2 := sums_bd hB (c := c + y) (l := l) (C := C + B) (by omega) (fun n hn => h n (List.mem_cons_of_mem _ hn)) x hx
      omega
theorem ediv_bd {x T B : Int} (hT : 0 < T) (hB : 0 ≤ B) (h1 : -B ≤ x) (h2 : x ≤ B) : -B ≤ x / T ∧ x / T ≤ B := by
  constructor
  · refine Int.le_ediv_of_mul_le hT ?_
    have h3 : B * 1 ≤ B * T := Int.mul_le_mul_of_nonneg_left (by omega) hB
    rw [Int.neg_mul]
    omega
  · have h3 : x / T * 1 ≤ B ∨ x / T < 0 := by
      by_cases h : x / T < 0
      · exact .inr h
      · left
        have h4 : x / T * 1 ≤ x / T * T := Int.mul_le_mul_of_nonneg_left (by omega) (by omega)
        have h5 := Int.ediv_mul_le x (show T ≠ 0 by omega)
        omega
    omega
abbrev iL (ns : List Int) : D := .lst (ns.map D.int)
def oI : Option Int → D
  | none => .non
  | some i => .int i
def oL : Option (List Int) → D
  | none => .non
  | some l => iL l
def wpIsInt : WP := fun ds q _ => ∃ i : Int, ds = [.int i] ∧ q (.bl true)
def wpCheck : WP := fun ds q _ => ∃ (ns : List Int) (m : Int), ds = [iL ns, .int m] ∧ (m ≤ ns.length ∧ ns.length ≤ 200) ∧ q .non
def wpSums : WPN := fun ds q _ => ∃ ns : List Int, ds = [iL ns] ∧ ns.length ≤ 1000 ∧ q ((sums 0 ns).map D.int)
def wpDiffs : WPN := fun ds q _ => ∃ ns : List Int, ds = [iL ns] ∧ ns.length ≤ 1000 ∧ q ((diffs ns).map D.int)
def wpPathSteps : WP := fun ds q _ => ∃ ns : List Int, ds = [iL ns] ∧ (1 ≤ ns.length ∧ ns.length ≤ 200) ∧ q (.int (pathSteps ns))
def wpPathEnd : WPN := fun ds q _ => ∃ ns : List Int, ds = [iL ns] ∧ (1 ≤ ns.length ∧ ns.length ≤ 200) ∧ q ((pathEnd ns).map D.int)
def wpArcs : WPN := fun ds q _ => ∃ ns : List Int, ds = [iL ns] ∧ (1 ≤ ns.length ∧ ns.length ≤ 200) ∧ q ((arcs ns).map D.int)
def wpCycleSteps : WP := fun ds q _ => ∃ ns : List Int, ds = [iL ns] ∧ (3 ≤ ns.length ∧ ns.length ≤ 200) ∧ (∀ n ∈ ns, -(10 ^ 60) ≤ n ∧ n ≤ 10 ^ 60) ∧ q (oI (cycleSteps ns))
def wpCycleEnd : WP := fun ds q _ => ∃ ns : List Int, ds = [iL ns] ∧ (3 ≤ ns.length ∧ ns.length ≤ 200) ∧ (∀ n ∈ ns, -(10 ^ 60) ≤ n ∧ n ≤ 10 ^ 60) ∧ q (oL (cycleEnd ns))
/-! ### differences -/
theorem diffs_nil : diffs [] = [] := rfl
theorem diffs_one (x : Int) : diffs [x] = [] := rfl
theorem diffs_cons (x y : Int) (l : List Int) : diffs (x :: y :: l) = (y - x) :: diffs (y :: l) := rfl
theorem diffs_app : ∀ (u : List Int) (x y : Int) (v : List Int), diffs (u ++ [x] ++ y :: v) = diffs (u ++ [x]) ++ (y - x) :: diffs (y :: v)
  | [], x, y, v => rfl
  | [a], x, y, v => rfl
  | a :: b :: u, x, y, v => by
    show (b - a) :: diffs ((b :: u) ++ [x] ++ y :: v) = (b - a) :: diffs ((b :: u) ++ [x]) ++ (y - x) :: diffs (y :: v)
    rw [diffs_app (b :: u) x y v]
    rfl
theorem diffs_len (l : List Int) : (diffs l).length = l.length - 1 := by
  unfold diffs
  rw [List.length_map, List.length_zip, List.length_drop]
  omega
theorem diffs_sum : ∀ (x : Int) (u : List Int) (z : Int), (diffs (x :: u ++ [z])).sum = z - x
  | x, [], z => by
    show (z - x) + 0 = z - x
    omega
  | x, y :: u, z => by
    show ((y - x) :: diffs (y :: u ++ [z])).sum = z - x
    rw [List.sum_cons, diffs_sum y u z]
    omega
theorem diffs_add (c : Int) : ∀ l : List Int, diffs (l.map fun x => c + x) = diffs l
  | [] => rfl
  | [x] => rfl
  | x :: y :: l => by
    show ((c + y) - (c + x)) :: diffs ((y :: l).map fun x => c + x) = (y - x) :: diffs (y :: l)
    rw [diffs_add c (y :: l)]
    congr 1
    omega
theorem diffs_nonneg : ∀ {l : List Int}, l.Pairwise (· ≤ ·) → ∀ d ∈ diffs l, 0 ≤ d
  | [], _, d, h => nomatch h
  | [x], _, d, h => nomatch h
  | x :: y :: l, hp, d, h => by
    rw [diffs_cons, List.mem_cons] at h
    rcases h with e | h
    · have := (List.pairwise_cons.mp hp).1 y List.mem_cons_self
      omega
    · exact diffs_nonneg (List.pairwise_cons.mp hp).2 d h
/-! ### partial sums -/
def psums : Int → List Int → List Int
  | _, [] => []
  | c, x :: l => (c + x) :: psums (c + x) l
theorem sums_ps : ∀ (c : Int) (l : List Int), sums c l = c :: psums c l
  | c, [] => rfl
  | c, x :: l => by rw [sums, psums, sums_ps]
theorem psums_app : ∀ (c : Int) (u v : List Int), psums c (u ++ v) = psums c u ++ psums (c + u.sum) v
  | c, [], v => by simp [psums]
  | c, x :: u, v => by
    rw [List.cons_append, psums, psums, psums_app, List.sum_cons, List.cons_append, Int.add_assoc]
theorem sums_app (c : Int) (u : List Int) (x : Int) (v : List Int) : sums c (u ++ x :: v) = sums c u ++ sums (c + u.sum + x) v := by
  rw [sums_ps, psums_app, sums_ps, sums_ps, psums]
  rfl
theorem sums_add (c d : Int) : ∀ l : List Int, sums (c + d) l = (sums d l).map fun x => c + x
  | [] => rfl
  | x :: l => by
    rw [sums, sums, List.map_cons, Int.add_assoc, sums_add c (d + x) l]
/-- negative parts -/
def neg (l : List Int) : Int := (l.map fun x => min x 0).sum
def pos (l : List Int) : Int := (l.map fun x => max x 0).sum
theorem neg_app (u v : List Int) : neg (u ++ v) = neg u + neg v := by unfold neg; rw [List.map_append, List.sum_append]
theorem pos_app (u v : List Int) : pos (u ++ v) = pos u + pos v := by unfold pos; rw [List.map_append, List.sum_append]
theorem neg_cons (x : Int) (l : List Int) : neg (x :: l) = min x 0 + neg l := by unfold neg; rw [List.map_cons, List.sum_cons]
theorem pos_cons (x : Int) (l : List Int) : pos (x :: l) = max x 0 + pos l := by unfold pos; rw [List.map_cons, List.sum_cons]
theorem neg_le : ∀ l : List Int, neg l ≤ 0
  | [] => Int.le_refl _
  | x :: l => by
    have := neg_le l
    rw [neg_cons]
    omega
theorem pos_ge : ∀ l : List Int, 0 ≤ pos l
  | [] => Int.le_refl _
  | x :: l => by
    have := pos_ge l
    rw [pos_cons]
    omega
theorem sum_np : ∀ l : List Int, l.sum = neg l + pos l
  | [] => rfl
  | x :: l => by
    rw [List.sum_cons, neg_cons, pos_cons, sum_np l]
    omega
theorem psums_np : ∀ (c : Int) (l : List Int), ∀ t ∈ psums c l, c + neg l ≤ t ∧ t ≤ c + pos l
  | c, [], t, h => nomatch h
  | c, x :: l, t, h => by
    rw [psums, List.mem_cons] at h
    rw [neg_cons, pos_cons]
    have h1 := neg_le l
    have h2 := pos_ge l
    rcases h with e | h
    · omega
    · have := psums_np (c + x) l t h
      omega
theorem sums_np (c : Int) (l : List Int) (t : Int) (h : t ∈ sums c l) : c + neg l ≤ t ∧ t ≤ c + pos l := by
  rw [sums_ps, List.mem_cons] at h
  have h1 := neg_le l
  have h2 := pos_ge l
  rcases h with e | h
  · omega
  · exact psums_np c l t h
theorem neg_perm {l l' : List Int} (h : l.Perm l') : neg l = neg l' := perm_sum (h.map _)
def absSum (l : List Int) : Int := (l.map fun x => if x < 0 then -x else x).sum
theorem abs_np : ∀ l : List Int, absSum l = pos l - neg l
  | [] => rfl
  | x :: l => by
    have e : absSum (x :: l) = (if x < 0 then -x else x) + absSum l := by
      unfold absSum
      rw [List.map_cons, List.sum_cons]
    rw [e, abs_np l, neg_cons, pos_cons]
    split <;> omega
/-! ### negative partial sums, counted -/
def ncount (l : List Int) : Int := ((l.filter fun t => decide (t < 0)).length : Nat)
theorem ncount_app (u v : List Int) : ncount (u ++ v) = ncount u + ncount v := by
  unfold ncount
  rw [List.filter_append, List.length_append]
  omega
theorem ncount_zero {l : List Int} (h : ∀ t ∈ l, 0 ≤ t) : ncount l = 0 := by
  unfold ncount
  rw [List.filter_eq_nil_iff.mpr fun t ht => by
    have := h t ht
    simp
    omega]
  rfl
def negc (l : List Int) : Int := ncount (psums 0 l)
/-- a great number ends what is negative -/
theorem negc_great (u : List Int) (g : Int) (v : List Int) (h : 0 ≤ neg u + g + neg v) : negc (u ++ g :: v) = negc u := by
  unfold negc
  rw [psums_app, ncount_app, ncount_zero (l := psums (0 + u.sum) (g :: v)), Int.add_zero]
  intro t ht
  rw [psums, List.mem_cons] at ht
  have h1 := sum_np u
  have h2 := pos_ge u
  have h3 := neg_le v
  rcases ht with e | ht
  · omega
  · have := (psums_np _ v t ht).1
    omega
/-! ### the length on a path -/
theorem shift_count (c d : Int) : ∀ l : List Int, (((psums (c + d) l).filter fun t => decide (t < c)).length : Nat) = (((psums d l).filter fun t => decide (t < 0)).length : Nat)
  | [] => rfl
  | x :: l => by
    have ih := shift_count c (d + x) l
    rw [← Int.add_assoc] at ih
    rw [psums, psums, List.filter_cons, List.filter_cons]
    by_cases h : d + x < 0
    · rw [if_pos (by simp; omega), if_pos (by simp; omega), List.length_cons, List.length_cons, ih]
    · rw [if_neg (by simp; omega), if_neg (by simp; omega), ih]
theorem zipIdx_shift {α : Type} : ∀ (l : List α) (k : Nat), l.zipIdx (k + 1) = (l.zipIdx k).map fun p => (p.1, p.2 + 1)
  | [], k => rfl
  | x :: l, k => by rw [List.zipIdx_cons, List.zipIdx_cons, zipIdx_shift l (k + 1), List.map_cons]
theorem invs_cons (c : Int) (L : List Int) : (invs (c :: L)).sum = (((L.filter fun t => decide (t < c)).length : Nat) : Int) + (invs L).sum := by
  unfold invs
  rw [List.zipIdx_cons, List.map_cons, List.sum_cons, zipIdx_shift, List.map_map]
  have e : ((c :: L).drop 0).filter (fun t => decide (t < c)) = L.filter (fun t => decide (t < c)) := by
    rw [List.drop_zero, List.filter_cons, if_neg (by simp)]
  rw [e]
  rfl
theorem steps_cons (c x : Int) (l : List Int) : (invs (sums c (x :: l))).sum = negc (x :: l) + (invs (sums (c + x) l)).sum := by
  rw [sums, invs_cons]
  congr 1
  have h := shift_count c 0 (x :: l)
  rw [Int.add_zero] at h
  unfold negc ncount
  rw [← h, psums, sums_ps]
theorem steps_drop : ∀ (c : Int) (l : List Int), (invs (sums c l)).sum = ((List.range (l.length + 1)).map fun s => negc (l.drop s)).sum
  | c, [] => by
    rw [sums, invs_cons]
    rfl
  | c, x :: l => by
    rw [steps_cons, steps_drop (c + x) l, List.length_cons, List.range_succ_eq_map (n := l.length + 1), List.map_cons, List.sum_cons, List.map_map]
    rfl
theorem pathSteps_drop (l : List Int) : pathSteps l = ((List.range (l.length + 1)).map fun s => negc (l.drop s)).sum := steps_drop 0 l
/-! ### the arcs of a ring -/
def rot (r : List Int) (s : Nat) : List Int := r.drop s ++ r.take s
theorem rot_len (r : List Int) (s : Nat) : (rot r s).length = r.length := by
  unfold rot
  rw [List.length_append, List.length_drop, List.length_take]
  omega
theorem rot_perm (r : List Int) (s : Nat) : (rot r s).Perm r := by
  unfold rot
  exact List.perm_append_comm.trans (by rw [List.take_append_drop])
theorem rot_get {r : List Int} {s q : Nat} (hs : s < r.length) (hq : q < r.length) : (rot r s)[q]? = some (r.getD ((s + q) % r.length) 0) := by
  unfold rot
  have hm : (s + q) % r.length < r.length := Nat.mod_lt _ (by omega)
  rw [List.getD_eq_getElem?_getD, List.getElem?_eq_getElem hm, Option.getD_some]
  by_cases h : s + q < r.length
  · rw [List.getElem?_append_left (by rw [List.length_drop]; omega), List.getElem?_drop, List.getElem?_eq_getElem h]
    congr 2
    exact (Nat.mod_eq_of_lt h).symm
  · have e : (s + q) % r.length = s + q - r.length := by
      rw [Nat.mod_eq_sub_mod (by omega), Nat.mod_eq_of_lt (by omega)]
    rw [List.getElem?_append_right (by rw [List.length_drop]; omega), List.length_drop, List.getElem?_take, if_pos (by omega), List.getElem?_eq_getElem (by omega)]
    congr 2
    omega
theorem take_sum_range (l : List Int) (f : Nat → Int) : ∀ k, k ≤ l.length → (∀ q < l.length, l[q]? = some (f q)) → ((List.range k).map f).sum = (l.take k).sum
  | 0, _, _ => by simp
  | k + 1, hk, hf => by
    rw [List.range_succ, List.map_append, List.sum_append, take_sum_range l f k (by omega) hf, List.take_add_one, hf k (by omega), List.sum_append]
    rfl
theorem arcN_rot {r : List Int} {s k : Nat} (hs : s < r.length) (hk : k ≤ r.length) : arcN r s k = ((rot r s).take k).sum := by
  unfold arcN
  exact take_sum_range (rot r s) _ k (by rw [rot_len]; exact hk) fun q hq => rot_get hs (by rw [rot_len] at hq; exact hq)
theorem psums_range : ∀ (c : Int) (l : List Int), psums c l = (List.range l.length).map fun q => c + (l.take (q + 1)).sum
  | c, [] => rfl
  | c, x :: l => by
    rw [psums, psums_range (c + x) l, List.length_cons, List.range_succ_eq_map, List.map_cons, List.map_map]
    congr 1
    · simp
    · apply List.map_congr_left
      intro q _
      simp [List.sum_cons]
      omega
theorem arcs_from {r : List Int} {s : Nat} (hs : s < r.length) : ((List.range (r.length - 1)).map fun q => arcN r s (q + 1)) = psums 0 ((rot r s).take (r.length - 1)) := by
  have hl : ((rot r s).take (r.length - 1)).length = r.length - 1 := by
    rw [List.length_take, rot_len]
    omega
  rw [psums_range, hl]
  apply List.map_congr_left
  intro q hq
  rw [List.mem_range] at hq
  rw [arcN_rot hs (by omega), Int.zero_add, List.take_take, Nat.min_eq_left (by omega)]
theorem neg_take (l : List Int) (k : Nat) : neg l ≤ neg (l.take k) := by
  have h := neg_app (l.take k) (l.drop k)
  rw [List.take_append_drop] at h
  have := neg_le (l.drop k)
  omega
theorem flat_sum {f : Nat → List Int} {g : List Int → Int} (hg : ∀ u v, g (u ++ v) = g u + g v) (h0 : g [] = 0) : ∀ n : Nat, g ((List.range n).flatMap f) = ((List.range n).map fun s => g (f s)).sum
  | 0 => by simp [h0]
  | n + 1 => by
    rw [List.range_succ, List.flatMap_append, hg, flat_sum hg h0 n, List.map_append, List.sum_append]
    simp
theorem map_congr_range {f g : Nat → Int} {n : Nat} (h : ∀ s < n, f s = g s) : (List.range n).map f = (List.range n).map g := List.map_congr_left fun s hs => h s (List.mem_range.mp hs)
/-- every firing of a ring is one arc below 0, if none is too far below -/
theorem cycleSteps_rot {r : List Int} (h1 : 0 < r.sum) (h2 : 0 ≤ r.sum + neg r) : cycleSteps r = some ((List.range r.length).map fun s => negc ((rot r s).take (r.length - 1))).sum := by
  unfold cycleSteps
  rw [if_neg (by omega)]
  congr 1
  have hb : ∀ a ∈ arcs r, -r.sum ≤ a := fun a ha => by
    unfold arcs at ha
    obtain ⟨s, hs, ha⟩ := List.mem_flatMap.mp ha
    rw [arcs_from (List.mem_range.mp hs)] at ha
    have h3 := (psums_np 0 _ a ha).1
    have h4 := neg_take (rot r s) (r.length - 1)
    rw [neg_perm (rot_perm r s)] at h4
    omega
  have one : ∀ l : List Int, (∀ a ∈ l, -r.sum ≤ a) → ((l.filter fun a => decide (a < 0)).map fun a => (r.sum - 1 - a) / r.sum).sum = ncount l := by
    intro l
    induction l with
    | nil => intro _; rfl
    | cons a l ih =>
      intro hl
      have ih' := ih fun b hb => hl b (List.mem_cons_of_mem _ hb)
      have ha := hl a List.mem_cons_self
      unfold ncount at ih' ⊢
      rw [List.filter_cons]
      by_cases h : a < 0
      · rw [if_pos (by simp; omega), List.map_cons, List.sum_cons, ih', List.length_cons]
        have e : (r.sum - 1 - a) / r.sum = 1 := by
          rw [show r.sum - 1 - a = (-1 - a) + r.sum * 1 by omega, Int.add_mul_ediv_left _ _ (by omega), Int.ediv_eq_zero_of_lt (by omega) (by omega)]
          rfl
        omega
      · rw [if_neg (by simp; omega), ih']
  rw [one _ hb]
  unfold arcs
  rw [flat_sum ncount_app rfl]
  congr 1
  apply map_congr_range
  intro s hs
  rw [arcs_from hs]
  rfl
theorem negc_cut {r u v : List Int} {g : Int} {s : Nat} (e : rot r s = u ++ g :: v) (h : 0 ≤ g + neg r) (hg : 0 ≤ g) : negc ((rot r s).take (r.length - 1)) = negc u := by
  have hn : neg r = neg u + neg v := by
    have := neg_perm (rot_perm r s)
    rw [e, neg_app, neg_cons] at this
    omega
  have hl : r.length = u.length + 1 + v.length := by
    have := rot_len r s
    rw [e, List.length_append, List.length_cons] at this
    omega
  rw [e, List.take_append, List.take_of_length_le (by omega)]
  cases hv : v with
  | nil =>
    subst hv
    rw [show r.length - 1 - u.length = 0 by simp at hl; omega, List.take_zero, List.append_nil]
  | cons y w =>
    subst hv
    rw [List.length_cons] at hl
    rw [show r.length - 1 - u.length = (w.length) + 1 by omega, List.take_succ_cons]
    refine negc_great u g _ ?_
    have := neg_take (y :: w) w.length
    omega
theorem k23_steps {a : List Int} {g : Int} (h : 2 * absSum a < g) : cycleSteps (a ++ [g]) = some (pathSteps a) := by
  have h1 := abs_np a
  have h2 := neg_le a
  have h3 := pos_ge a
  have h4 := sum_np a
  have hs : (a ++ [g]).sum = a.sum + g := by rw [List.sum_append]; simp
  have hn : neg (a ++ [g]) = neg a := by
    rw [neg_app, neg_cons]
    show neg a + (min g 0 + 0) = neg a
    omega
  have hl : (a ++ [g]).length = a.length + 1 := by rw [List.length_append]; rfl
  rw [cycleSteps_rot (by omega) (by omega), pathSteps_drop, hl]
  congr 2
  apply map_congr_range
  intro s hs2
  have e : rot (a ++ [g]) s = a.drop s ++ g :: a.take s := by
    unfold rot
    rw [List.drop_append_of_le_length (by omega), List.take_append_of_le_length (by omega), List.append_assoc]
    rfl
  have := negc_cut e (by omega) (by omega)
  rw [hl] at this
  exact this
theorem k23_steps2 {a b : List Int} {g : Int} (h : 2 * absSum (a ++ b) < g) : cycleSteps (a ++ [g] ++ b ++ [g]) = some (pathSteps a + pathSteps b) := by
  have h1 := abs_np (a ++ b)
  rw [pos_app, neg_app] at h1
  have h2 := neg_le a
  have h3 := pos_ge a
  have h4 := sum_np a
  have h5 := neg_le b
  have h6 := pos_ge b
  have h7 := sum_np b
  have hs : (a ++ [g] ++ b ++ [g]).sum = a.sum + g + b.sum + g := by
    rw [List.sum_append, List.sum_append, List.sum_append]
    simp
  have ng : neg [g] = 0 := by
    rw [neg_cons]
    show min g 0 + 0 = 0
    omega
  have hn : neg (a ++ [g] ++ b ++ [g]) = neg a + neg b := by
    rw [neg_app, neg_app, neg_app, ng]
    omega
  have hl : (a ++ [g] ++ b ++ [g]).length = (a.length + 1) + (b.length + 1) := by
    rw [List.length_append, List.length_append, List.length_append]
    simp
    omega
  rw [cycleSteps_rot (by omega) (by omega), pathSteps_drop, pathSteps_drop, hl, List.range_add, List.map_append, List.sum_append]
  congr 2
  · congr 1
    apply map_congr_range
    intro s hs2
    have e : rot (a ++ [g] ++ b ++ [g]) s = a.drop s ++ g :: (b ++ [g] ++ a.take s) := by
      unfold rot
      rw [List.append_assoc, List.append_assoc, List.drop_append_of_le_length (by omega), List.take_append_of_le_length (by omega), List.append_assoc]
      simp
    have := negc_cut e (by omega) (by omega)
    rw [hl] at this
    exact this
  · congr 1
    rw [List.map_map]
    apply map_congr_range
    intro s hs2
    show negc ((rot (a ++ [g] ++ b ++ [g]) (a.length + 1 + s)).take (a.length + 1 + (b.length + 1) - 1)) = negc (b.drop s)
    have e : rot (a ++ [g] ++ b ++ [g]) (a.length + 1 + s) = b.drop s ++ g :: (a ++ [g] ++ b.take s) := by
      unfold rot
      have e1 : a ++ [g] ++ b ++ [g] = (a ++ [g]) ++ (b ++ [g]) := by rw [List.append_assoc]
      have e2 : (a ++ [g]).length = a.length + 1 := by rw [List.length_append]; rfl
      rw [e1, List.drop_append, List.take_append, e2, List.drop_of_length_le (by omega), List.take_of_length_le (by omega), show a.length + 1 + s - (a.length + 1) = s by omega, List.nil_append,
        List.drop_append_of_le_length (by omega), List.take_append_of_le_length (by omega), List.append_assoc]
      simp
    have := negc_cut e (by omega) (by omega)
    rw [hl] at this
    exact this
/-! ### the window of a ring -/
theorem split_sorted {p : Int → Bool} : ∀ {l : List Int}, l.Pairwise (· ≤ ·) → (∀ x y, x ≤ y → p y = true → p x = true) → l = l.filter p ++ l.filter fun x => !p x
  | [], _, _ => rfl
  | x :: l, h, hp => by
    have ⟨h1, h2⟩ := List.pairwise_cons.mp h
    rw [List.filter_cons, List.filter_cons]
    cases hx : p x with
    | true =>
      show x :: l = (x :: l.filter p) ++ l.filter fun x => !p x
      rw [List.cons_append, ← split_sorted h2 hp]
    | false =>
      have e1 : l.filter p = [] := List.filter_eq_nil_iff.mpr fun y hy hpy => by
        rw [hp x y (h1 y hy) hpy] at hx
        cases hx
      have e2 : l.filter (fun x => !p x) = l := List.filter_eq_self.mpr fun y hy => by
        cases hpy : p y with
        | true =>
          rw [hp x y (h1 y hy) hpy] at hx
          cases hx
        | false => rfl
      show x :: l = l.filter p ++ (x :: l.filter fun x => !p x)
      rw [e1, e2]
      rfl
theorem sum_map_sub (c : Int) : ∀ l : List Int, (l.map fun x => x - c).sum = l.sum - (l.length : Int) * c
  | [] => by simp
  | x :: l => by
    rw [List.map_cons, List.sum_cons, sum_map_sub c l, List.sum_cons, List.length_cons, Int.natCast_add, Int.add_mul]
    omega
theorem window_eq {T : Int} {s : List Int} {w0 : Int} {wr : List Int} (hT : 0 < T) (hl : (w0 :: wr).length = s.length) (ha : (w0 :: wr).Pairwise (· ≤ ·)) (hb : ∀ x ∈ w0 :: wr, x ≤ w0 + T)
    (hp : ((w0 :: wr).map fun x => x % T).Perm (s.map fun x => x % T)) (hs : (w0 :: wr).sum = s.sum) : window T s = w0 :: wr := by
  have hlow : ∀ x ∈ w0 :: wr, w0 ≤ x := fun x hx => by
    rcases List.mem_cons.mp hx with e | h
    · omega
    · exact (List.pairwise_cons.mp ha).1 x h
  generalize hw : w0 :: wr = w at *
  have hdm := Int.emod_add_mul_ediv w0 T
  have hm0 := Int.emod_nonneg w0 (show T ≠ 0 by omega)
  have hm1 := Int.emod_lt_of_pos w0 hT
  generalize hq : w0 / T = q at hdm
  let p : Int → Bool := fun x => decide (x < T * q + T)
  have hsp := split_sorted (p := p) ha fun x y hxy hy => by
    have : y < T * q + T := of_decide_eq_true hy
    exact decide_eq_true (show x < T * q + T by omega)
  have inA : ∀ x ∈ w.filter p, x % T = x - T * q := fun x hx => by
    have ⟨h1, h2⟩ := List.mem_filter.mp hx
    have h3 : x < T * q + T := of_decide_eq_true h2
    have h4 := hlow x h1
    rw [show x = (x - T * q) + T * q by omega, Int.add_mul_emod_self_left, Int.emod_eq_of_lt (by omega) (by omega)]
    omega
  have inB : ∀ x ∈ w.filter (fun x => !p x), x % T = x - (T * q + T) := fun x hx => by
    have ⟨h1, h2⟩ := List.mem_filter.mp hx
    have h3 : ¬ x < T * q + T := fun h => by
      have : p x = true := decide_eq_true h
      rw [this] at h2
      cases h2
    have h4 := hb x h1
    rw [show x = (x - (T * q + T)) + T * (q + 1) by rw [Int.mul_add]; omega, Int.add_mul_emod_self_left, Int.emod_eq_of_lt (by omega) (by omega)]
    rw [Int.mul_add]
    omega
  generalize hA : w.filter p = A at hsp inA
  generalize hB : w.filter (fun x => !p x) = B at hsp inB
  have memA : ∀ x ∈ A, w0 ≤ x ∧ x < T * q + T := fun x hx => by
    rw [← hA] at hx
    have ⟨h1, h2⟩ := List.mem_filter.mp hx
    exact ⟨hlow x h1, of_decide_eq_true h2⟩
  have memB : ∀ x ∈ B, T * q + T ≤ x ∧ x ≤ w0 + T := fun x hx => by
    rw [← hB] at hx
    have ⟨h1, h2⟩ := List.mem_filter.mp hx
    refine ⟨Int.not_lt.mp fun h => ?_, hb x h1⟩
    have : p x = true := decide_eq_true h
    rw [this] at h2
    cases h2
  have hAne : 0 < A.length := by
    have h1 : w0 ∈ A := by
      rw [← hA]
      refine List.mem_filter.mpr ⟨by rw [← hw]; exact List.mem_cons_self, decide_eq_true ?_⟩
      omega
    exact List.length_pos_of_mem h1
  have hAm : A.map (fun x => x % T) = A.map fun x => x - T * q := List.map_congr_left inA
  have hBm : B.map (fun x => x % T) = B.map fun x => x - (T * q + T) := List.map_congr_left inB
  rw [hsp, List.pairwise_append] at ha
  have hR : (B.map fun x => x - (T * q + T)) ++ (A.map fun x => x - T * q) = srt (s.map fun x => x % T) := by
    refine srt_eq ?_ ?_
    · refine List.Perm.trans ?_ hp
      rw [hsp, List.map_append, hAm, hBm]
      exact List.perm_append_comm
    · refine List.pairwise_append.mpr ⟨?_, ?_, fun x hx y hy => ?_⟩
      · exact List.pairwise_map.mpr (ha.2.1.imp fun {x y} h => by omega)
      · exact List.pairwise_map.mpr (ha.1.imp fun {x y} h => by omega)
      · obtain ⟨b, hb', rfl⟩ := List.mem_map.mp hx
        obtain ⟨a, ha', rfl⟩ := List.mem_map.mp hy
        have h1 := memB b hb'
        have h2 := memA a ha'
        omega
  have hlen : (s.length : Int) = (A.length : Int) + (B.length : Int) := by
    rw [← hl, hsp, List.length_append]
    omega
  unfold window
  rw [← hR]
  dsimp only
  have hsum : s.sum - ((B.map fun x => x - (T * q + T)) ++ (A.map fun x => x - T * q)).sum = T * ((B.length : Int) + (s.length : Int) * q) := by
    rw [List.sum_append, sum_map_sub, sum_map_sub, ← hs, hsp, List.sum_append, hlen, Int.mul_add, Int.mul_add, Int.add_mul, Int.mul_add]
    have e1 : (B.length : Int) * (T * q) = T * ((B.length : Int) * q) := by rw [Int.mul_left_comm]
    have e2 : (A.length : Int) * (T * q) = T * ((A.length : Int) * q) := by rw [Int.mul_left_comm]
    have e3 : (B.length : Int) * T = T * (B.length : Int) := Int.mul_comm _ _
    omega
  have hn : 0 < (s.length : Int) := by omega
  rw [hsum, Int.mul_ediv_cancel_left _ (by omega), Int.add_mul_ediv_left _ _ (by omega), Int.ediv_eq_zero_of_lt (by omega) (by omega), Int.add_mul_emod_self_left, Int.emod_eq_of_lt (by omega) (by omega), Int.toNat_natCast]
  have lB : (B.map fun x => x - (T * q + T)).length = B.length := List.length_map _
  have d1 : ((B.map fun x => x - (T * q + T)) ++ (A.map fun x => x - T * q)).drop B.length = A.map fun x => x - T * q := by
    rw [List.drop_append, List.drop_of_length_le (by omega), lB, Nat.sub_self]
    rfl
  have d2 : ((B.map fun x => x - (T * q + T)) ++ (A.map fun x => x - T * q)).take B.length = B.map fun x => x - (T * q + T) := by
    rw [List.take_append, List.take_of_length_le (by omega), lB, Nat.sub_self, List.take_zero, List.append_nil]
  rw [d1, d2, List.map_map, List.map_map, hsp]
  congr 1
  · refine (List.map_congr_left (g := id) fun x _ => ?_).trans (List.map_id _)
    show x - T * q + (0 + q) * T = x
    rw [Int.zero_add, Int.mul_comm q T]
    omega
  · refine (List.map_congr_left (g := id) fun x _ => ?_).trans (List.map_id _)
    show x - (T * q + T) + ((0 + q) + 1) * T = x
    rw [Int.zero_add, Int.add_mul, Int.mul_comm q T]
    omega
theorem srt_cons (l : List Int) (h : l ≠ []) : ∃ x r, srt l = x :: r := by
  cases e : srt l with
  | nil =>
    have := (srt_perm l).length_eq
    rw [e] at this
    exact absurd (List.length_eq_zero_iff.mp this.symm) h
  | cons x r => exact ⟨x, r, rfl⟩
theorem sums_take (c : Int) (u : List Int) (x : Int) : (sums c (u ++ [x])).take (u ++ [x]).length = sums c u := by
  rw [sums_snoc, List.length_append, List.length_singleton, List.take_append_of_le_length (by rw [sums_len]; exact Nat.le_refl _)]
  exact List.take_of_length_le (by rw [sums_len]; exact Nat.le_refl _)
theorem k23_end {a : List Int} {g : Int} (h : 2 * absSum a < g) : cycleEnd (a ++ [g]) = some (pathEnd a ++ [(a ++ [g]).sum - (pathEnd a).sum]) := by
  have h1 := abs_np a
  have h2 := neg_le a
  have h3 := pos_ge a
  have h4 := sum_np a
  have hs : (a ++ [g]).sum = a.sum + g := by rw [List.sum_append]; simp
  unfold cycleEnd
  rw [if_neg (by omega), sums_take]
  obtain ⟨x, r, e⟩ := srt_cons (sums 0 a) (by rw [sums_ps]; exact List.cons_ne_nil _ _)
  have hp := srt_perm (sums 0 a)
  have ha := srt_sorted (sums 0 a)
  rw [e] at hp ha
  have hmem : ∀ y ∈ x :: r, neg a ≤ y ∧ y ≤ pos a := fun y hy => by
    have := sums_np 0 a y (hp.mem_iff.mp hy)
    omega
  have hw : window (a ++ [g]).sum (sums 0 a) = x :: r := by
    refine window_eq (by omega) hp.length_eq ha (fun y hy => ?_) (hp.map _) (perm_sum hp)
    have h5 := hmem y hy
    have h6 := hmem x List.mem_cons_self
    omega
  dsimp only
  rw [hw]
  unfold pathEnd
  rw [e]
  show some (diffs (x :: r ++ [x + (a ++ [g]).sum])) = _
  congr 1
  rcases List.eq_nil_or_concat r with hr | ⟨r', z, hr⟩
  · subst hr
    show [x + (a ++ [g]).sum - x] = [] ++ [(a ++ [g]).sum - 0]
    rw [List.nil_append]
    congr 1
    omega
  · rw [List.concat_eq_append] at hr
    subst hr
    have e2 := diffs_app (x :: r') z (x + (a ++ [g]).sum) []
    rw [← List.cons_append, e2, diffs_one, diffs_sum x r' z]
    congr 2
    omega
theorem diffs_take (u : List Int) (x : Int) (v : List Int) : (diffs (u ++ [x] ++ v)).take u.length = diffs (u ++ [x]) := by
  have hl : (diffs (u ++ [x])).length = u.length := by
    rw [diffs_len, List.length_append]
    rfl
  cases v with
  | nil =>
    rw [List.append_nil]
    exact List.take_of_length_le (by omega)
  | cons y v =>
    rw [diffs_app, List.take_append_of_le_length (by omega)]
    exact List.take_of_length_le (by omega)
theorem snoc_of (l : List Int) (h : l ≠ []) : ∃ u x, l = u ++ [x] := by
  rcases List.eq_nil_or_concat l with e | ⟨u, x, e⟩
  · exact absurd e h
  · rw [List.concat_eq_append] at e
    exact ⟨u, x, e⟩
theorem k23_end2 {a b : List Int} {g : Int} (h : 2 * absSum (a ++ b) < g) : ∃ f, cycleEnd (a ++ [g] ++ b ++ [g]) = some f ∧ f.take a.length = pathEnd a ∧ f.sum = (a ++ [g] ++ b ++ [g]).sum ∧ f.dropLast.drop (a.length + 1) = pathEnd b ∧ (∀ x ∈ f, 0 ≤ x) ∧ f ≠ [] := by
  have h1 := abs_np (a ++ b)
  rw [pos_app, neg_app] at h1
  have h2 := neg_le a
  have h3 := pos_ge a
  have h4 := sum_np a
  have h5 := neg_le b
  have h6 := pos_ge b
  have h7 := sum_np b
  have hs : (a ++ [g] ++ b ++ [g]).sum = a.sum + g + b.sum + g := by
    rw [List.sum_append, List.sum_append, List.sum_append]
    simp
  unfold cycleEnd
  rw [if_neg (by omega), sums_take]
  have es : sums 0 (a ++ [g] ++ b) = sums 0 a ++ (sums 0 b).map fun x => (a.sum + g) + x := by
    have h8 := sums_app 0 a g b
    have h9 := sums_add (a.sum + g) 0 b
    rw [Int.add_zero] at h9
    rw [List.append_assoc, List.singleton_append, h8, Int.zero_add, h9]
  obtain ⟨x, r, e⟩ := srt_cons (sums 0 a) (by rw [sums_ps]; exact List.cons_ne_nil _ _)
  have hpa := srt_perm (sums 0 a)
  have haa := srt_sorted (sums 0 a)
  rw [e] at hpa haa
  have hpb := srt_perm (sums 0 b)
  have hab := srt_sorted (sums 0 b)
  have ma : ∀ y ∈ x :: r, neg a ≤ y ∧ y ≤ pos a := fun y hy => by
    have := sums_np 0 a y (hpa.mem_iff.mp hy)
    omega
  have mb : ∀ y ∈ srt (sums 0 b), neg b ≤ y ∧ y ≤ pos b := fun y hy => by
    have := sums_np 0 b y (hpb.mem_iff.mp hy)
    omega
  have hperm : (x :: (r ++ (srt (sums 0 b)).map fun x => (a.sum + g) + x)).Perm (sums 0 (a ++ [g] ++ b)) := by
    rw [es, ← List.cons_append]
    exact hpa.append (hpb.map _)
  have hasc : (x :: (r ++ (srt (sums 0 b)).map fun x => (a.sum + g) + x)).Pairwise (· ≤ ·) := by
    rw [← List.cons_append]
    refine List.pairwise_append.mpr ⟨haa, List.pairwise_map.mpr (hab.imp fun {x y} h => by omega), fun y hy z hz => ?_⟩
    obtain ⟨t, ht, rfl⟩ := List.mem_map.mp hz
    have h8 := ma y hy
    have h9 := mb t ht
    omega
  have hw : window (a ++ [g] ++ b ++ [g]).sum (sums 0 (a ++ [g] ++ b)) = x :: (r ++ (srt (sums 0 b)).map fun x => (a.sum + g) + x) := by
    refine window_eq (by omega) hperm.length_eq hasc (fun y hy => ?_) (hperm.map _) (perm_sum hperm)
    rw [← List.cons_append] at hy
    have h8 := ma x List.mem_cons_self
    rcases List.mem_append.mp hy with hy | hy
    · have h9 := ma y hy
      omega
    · obtain ⟨t, ht, rfl⟩ := List.mem_map.mp hy
      have h9 := mb t ht
      omega
  dsimp only
  rw [hw]
  refine ⟨_, rfl, ?_⟩
  show (diffs (x :: (r ++ (srt (sums 0 b)).map fun x => (a.sum + g) + x) ++ [x + (a ++ [g] ++ b ++ [g]).sum])).take a.length = pathEnd a ∧ _
  have hla : (x :: r).length = a.length + 1 := by rw [hpa.length_eq, sums_len]
  have hlb : (srt (sums 0 b)).length = b.length + 1 := by rw [hpb.length_eq, sums_len]
  obtain ⟨u, z, eu⟩ := snoc_of (x :: r) (List.cons_ne_nil _ _)
  obtain ⟨y, t, et⟩ := srt_cons (sums 0 b) (by rw [sums_ps]; exact List.cons_ne_nil _ _)
  obtain ⟨u2, z2, eu2⟩ := snoc_of ((srt (sums 0 b)).map fun x => (a.sum + g) + x) (by
    rw [et]
    exact List.cons_ne_nil _ _)
  have hul : u.length = a.length := by
    rw [eu, List.length_append] at hla
    simp at hla
    exact hla
  have ew : x :: (r ++ (srt (sums 0 b)).map fun x => (a.sum + g) + x) ++ [x + (a ++ [g] ++ b ++ [g]).sum] = u ++ [z] ++ ((srt (sums 0 b)).map (fun x => (a.sum + g) + x) ++ [x + (a ++ [g] ++ b ++ [g]).sum]) := by
    rw [← eu, List.cons_append, List.append_assoc, ← List.cons_append]
  refine ⟨?_, ?_, ?_, ?_, ?_⟩
  · rw [ew, ← hul, diffs_take, ← eu]
    unfold pathEnd
    rw [e]
  · show (diffs (x :: (r ++ (srt (sums 0 b)).map fun x => (a.sum + g) + x) ++ [x + (a ++ [g] ++ b ++ [g]).sum])).sum = _
    rw [diffs_sum]
    omega
  · show (diffs (x :: (r ++ (srt (sums 0 b)).map fun x => (a.sum + g) + x) ++ [x + (a ++ [g] ++ b ++ [g]).sum])).dropLast.drop (a.length + 1) = _
    have hdb : diffs ((srt (sums 0 b)).map fun x => (a.sum + g) + x) = pathEnd b := by
      rw [diffs_add]
      rfl
    have ld : (diffs (u ++ [z])).length = a.length := by
      rw [diffs_len, List.length_append, hul]
      rfl
    rw [ew, et, List.map_cons, List.cons_append, diffs_app, ← List.cons_append, ← List.map_cons, ← et, eu2, diffs_app, diffs_one, ← eu2, hdb]
    rw [List.dropLast_append_cons, List.drop_append, List.drop_of_length_le (by omega), ld, List.nil_append, show a.length + 1 - a.length = 1 by omega]
    rw [← List.cons_append, List.dropLast_concat]
    rfl
  · intro v hv
    refine diffs_nonneg (l := x :: (r ++ (srt (sums 0 b)).map fun x => (a.sum + g) + x) ++ [x + (a ++ [g] ++ b ++ [g]).sum]) ?_ v hv
    refine List.pairwise_append.mpr ⟨hasc, List.pairwise_singleton _ _, fun c hc d hd => ?_⟩
    rw [List.mem_singleton] at hd
    subst hd
    rw [← List.cons_append] at hc
    have h8 := ma x List.mem_cons_self
    rcases List.mem_append.mp hc with hy | hy
    · have h9 := ma c hy
      omega
    · obtain ⟨t, ht, rfl⟩ := List.mem_map.mp hy
      have h9 := mb t ht
      omega
  · intro hnil
    have h8 := diffs_len (x :: (r ++ (srt (sums 0 b)).map fun x => (a.sum + g) + x) ++ [x + (a ++ [g] ++ b ++ [g]).sum])
    have h9 : (diffs (x :: (r ++ (srt (sums 0 b)).map fun x => (a.sum + g) + x) ++ [x + (a ++ [g] ++ b ++ [g]).sum])) = [] := hnil
    rw [h9] at h8
    simp at h8
/-! ### paths turned and multiplied -/
theorem pathSteps_cons (x : Int) (l : List Int) : pathSteps (x :: l) = negc (x :: l) + pathSteps l := by
  rw [pathSteps_drop, pathSteps_drop, List.length_cons, List.range_succ_eq_map (n := l.length + 1), List.map_cons, List.sum_cons, List.map_map]
  rfl
theorem pathSteps_nil : pathSteps [] = 0 := rfl
def one (x : Int) : Int := if x < 0 then 1 else 0
theorem ncount_one (x : Int) : ncount [x] = one x := by
  unfold ncount one
  rw [List.filter_cons]
  by_cases h : x < 0
  · rw [if_pos (by simp; omega), if_pos h]
    rfl
  · rw [if_neg (by simp; omega), if_neg h]
    rfl
theorem negc_snoc (l : List Int) (x : Int) : negc (l ++ [x]) = negc l + one (l.sum + x) := by
  unfold negc
  rw [psums_app, ncount_app, Int.zero_add]
  show _ + ncount [l.sum + x] = _
  rw [ncount_one]
theorem perm_reverse_sum (l : List Int) : l.reverse.sum = l.sum := perm_sum l.reverse_perm
theorem pathSteps_snoc : ∀ (l : List Int) (x : Int), pathSteps (l ++ [x]) = pathSteps l + negc (x :: l.reverse)
  | [], x => by
    show pathSteps [x] = 0 + negc [x]
    rw [pathSteps_cons, pathSteps_nil]
    omega
  | y :: l, x => by
    rw [List.cons_append, pathSteps_cons, pathSteps_snoc l x, pathSteps_cons, ← List.cons_append, negc_snoc, List.reverse_cons, ← List.cons_append, negc_snoc, List.sum_cons, List.sum_cons, perm_reverse_sum]
    rw [show y + l.sum + x = x + l.sum + y by omega]
    omega
theorem path_rev_steps : ∀ l : List Int, pathSteps l.reverse = pathSteps l
  | [] => rfl
  | x :: l => by rw [List.reverse_cons, pathSteps_snoc, List.reverse_reverse, path_rev_steps l, pathSteps_cons]; omega
theorem sums_rev : ∀ (c : Int) (l : List Int), sums c l.reverse = ((sums 0 l).reverse).map fun x => c + l.sum - x
  | c, [] => by simp [sums]
  | c, y :: l => by
    rw [List.reverse_cons, sums_snoc, sums_rev c l, sums_ps 0 (y :: l), psums, Int.zero_add]
    have h := sums_add y 0 l
    rw [Int.add_zero, sums_ps] at h
    rw [List.reverse_cons, List.map_append, h, perm_reverse_sum, List.sum_cons, ← List.map_reverse, List.map_map]
    congr 1
    · apply List.map_congr_left
      intro t _
      show c + l.sum - t = c + (y + l.sum) - (y + t)
      omega
    · simp
      omega
theorem srt_neg (S : Int) (l : List Int) : srt (l.map fun x => S - x) = ((srt l).reverse).map fun x => S - x := by
  symm
  apply srt_eq
  · exact (((srt l).reverse_perm).trans (srt_perm l)).map _
  · rw [List.pairwise_map, List.pairwise_reverse]
    exact (srt_sorted l).imp fun {x y} h => by omega
theorem srt_of_perm {l l' : List Int} (h : l.Perm l') : srt l = srt l' := srt_eq ((srt_perm l).trans h) (srt_sorted l)
theorem diffs_snoc (u : List Int) (x y : Int) : diffs (u ++ [x] ++ [y]) = diffs (u ++ [x]) ++ [y - x] := by rw [diffs_app, diffs_one]
theorem diffs_rev (S : Int) : ∀ l : List Int, diffs ((l.reverse).map fun x => S - x) = (diffs l).reverse
  | [] => rfl
  | [x] => rfl
  | x :: y :: l => by
    have ih := diffs_rev S (y :: l)
    rw [diffs_cons, List.reverse_cons, List.map_append, List.reverse_cons (as := diffs (y :: l)), ← ih, List.reverse_cons, List.map_append]
    show diffs ((l.reverse).map (fun x => S - x) ++ [S - y] ++ [S - x]) = _
    rw [diffs_snoc]
    congr 2
    omega
theorem path_rev_end (l : List Int) : pathEnd l.reverse = (pathEnd l).reverse := by
  unfold pathEnd
  rw [sums_rev, srt_neg, srt_of_perm (List.reverse_perm (sums 0 l)), diffs_rev]
/-- times a positive number -/
def mulL (t : Int) (l : List Int) : List Int := l.map fun x => t * x
theorem psums_mul (t : Int) : ∀ (c : Int) (l : List Int), psums (t * c) (mulL t l) = mulL t (psums c l)
  | c, [] => rfl
  | c, x :: l => by
    have ih := psums_mul t (c + x) l
    show (t * c + t * x) :: psums (t * c + t * x) (mulL t l) = (t * (c + x)) :: mulL t (psums (c + x) l)
    rw [← Int.mul_add, ih]
theorem sums_mul (t : Int) (l : List Int) : sums 0 (mulL t l) = mulL t (sums 0 l) := by
  rw [sums_ps, sums_ps]
  have h := psums_mul t 0 l
  rw [Int.mul_zero] at h
  rw [h]
  show 0 :: mulL t (psums 0 l) = (t * 0) :: mulL t (psums 0 l)
  rw [Int.mul_zero]
theorem neg_iff {t x : Int} (ht : 0 < t) : t * x < 0 ↔ x < 0 := by
  constructor
  · intro h
    apply Int.not_le.mp
    intro h2
    have := Int.mul_nonneg (Int.le_of_lt ht) h2
    omega
  · intro h
    exact Int.mul_neg_of_pos_of_neg ht h
theorem ncount_mul {t : Int} (ht : 0 < t) : ∀ l : List Int, ncount (mulL t l) = ncount l
  | [] => rfl
  | x :: l => by
    have ih := ncount_mul ht l
    have e1 : mulL t (x :: l) = [t * x] ++ mulL t l := rfl
    rw [e1, ncount_app, ih, show x :: l = [x] ++ l from rfl, ncount_app, ncount_one, ncount_one]
    unfold one
    by_cases h : x < 0
    · rw [if_pos h, if_pos ((neg_iff ht).mpr h)]
    · rw [if_neg h, if_neg fun z => h ((neg_iff ht).mp z)]
theorem negc_mul {t : Int} (ht : 0 < t) (l : List Int) : negc (mulL t l) = negc l := by
  unfold negc
  have h := psums_mul t 0 l
  rw [Int.mul_zero] at h
  rw [h, ncount_mul ht]
theorem path_mul_steps {t : Int} (ht : 0 < t) : ∀ l : List Int, pathSteps (mulL t l) = pathSteps l
  | [] => rfl
  | x :: l => by
    have e : mulL t (x :: l) = (t * x) :: mulL t l := rfl
    have h := negc_mul ht (x :: l)
    rw [e] at h ⊢
    rw [pathSteps_cons, pathSteps_cons, h, path_mul_steps ht l]
theorem srt_mul {t : Int} (ht : 0 < t) (l : List Int) : srt (mulL t l) = mulL t (srt l) := by
  symm
  apply srt_eq
  · exact (srt_perm l).map _
  · unfold mulL
    rw [List.pairwise_map]
    exact (srt_sorted l).imp fun {x y} h => Int.mul_le_mul_of_nonneg_left h (Int.le_of_lt ht)
theorem diffs_mul (t : Int) : ∀ l : List Int, diffs (mulL t l) = mulL t (diffs l)
  | [] => rfl
  | [x] => rfl
  | x :: y :: l => by
    have ih := diffs_mul t (y :: l)
    show (t * y - t * x) :: diffs (mulL t (y :: l)) = (t * (y - x)) :: mulL t (diffs (y :: l))
    rw [ih, Int.mul_sub]
theorem path_mul_end {t : Int} (ht : 0 < t) (l : List Int) : pathEnd (mulL t l) = mulL t (pathEnd l) := by
  unfold pathEnd
  rw [sums_mul, srt_mul ht, diffs_mul]
/-- what has ended -/
theorem neg_zero {l : List Int} (h : ∀ x ∈ l, 0 ≤ x) : neg l = 0 := by
  induction l with
  | nil => rfl
  | cons x l ih =>
    rw [neg_cons, ih fun y hy => h y (List.mem_cons_of_mem _ hy)]
    have := h x List.mem_cons_self
    omega
theorem negc_zero {l : List Int} (h : ∀ x ∈ l, 0 ≤ x) : negc l = 0 := by
  unfold negc
  apply ncount_zero
  intro t ht
  have h1 := (psums_np 0 l t ht).1
  rw [neg_zero h] at h1
  omega
theorem steps_zero : ∀ {l : List Int}, (∀ x ∈ l, 0 ≤ x) → pathSteps l = 0
  | [], _ => rfl
  | x :: l, h => by
    rw [pathSteps_cons, negc_zero h, steps_zero fun y hy => h y (List.mem_cons_of_mem _ hy)]
    rfl
theorem ncount_nn (l : List Int) : 0 ≤ ncount l := by
  unfold ncount
  omega
theorem steps_nn : ∀ l : List Int, 0 ≤ pathSteps l
  | [] => Int.le_refl _
  | x :: l => by
    have h1 := steps_nn l
    have h2 := ncount_nn (psums 0 (x :: l))
    rw [pathSteps_cons]
    unfold negc
    omega
theorem steps_zero_iff : ∀ {l : List Int}, pathSteps l = 0 → ∀ x ∈ l, 0 ≤ x
  | [], _, x, hx => nomatch hx
  | y :: l, h, x, hx => by
    rw [pathSteps_cons] at h
    have h1 := steps_nn l
    have e : psums 0 (y :: l) = [0 + y] ++ psums (0 + y) l := rfl
    have h2 := ncount_nn (psums (0 + y) l)
    unfold negc at h
    rw [e, ncount_app, ncount_one, Int.zero_add] at h
    rw [Int.zero_add] at h2
    unfold one at h
    rcases List.mem_cons.mp hx with z | hx
    · subst z
      split at h <;> omega
    · refine steps_zero_iff (l := l) ?_ x hx
      split at h <;> omega
theorem sums_asc : ∀ {c : Int} {l : List Int}, (∀ x ∈ l, 0 ≤ x) → (sums c l).Pairwise (· ≤ ·)
  | c, [], _ => List.pairwise_singleton _ _
  | c, x :: l, h => by
    rw [sums]
    have hl : ∀ y ∈ l, 0 ≤ y := fun y hy => h y (List.mem_cons_of_mem _ hy)
    refine List.pairwise_cons.mpr ⟨fun t ht => ?_, sums_asc hl⟩
    have h1 := (sums_np _ _ t ht).1
    rw [neg_zero hl] at h1
    have := h x List.mem_cons_self
    omega
theorem diffs_sums : ∀ (c : Int) (l : List Int), diffs (sums c l) = l
  | c, [] => rfl
  | c, [x] => by
    show [c + x - c] = [x]
    congr 1
    omega
  | c, x :: y :: l => by
    show (c + x - c) :: diffs (sums (c + x) (y :: l)) = x :: y :: l
    rw [diffs_sums (c + x) (y :: l)]
    congr 1
    omega
theorem srt_self {l : List Int} (h : l.Pairwise (· ≤ ·)) : srt l = l := (srt_eq (List.Perm.refl l) h).symm
theorem end_self {l : List Int} (h : ∀ x ∈ l, 0 ≤ x) : pathEnd l = l := by
  unfold pathEnd
  rw [srt_self (sums_asc h), diffs_sums]
theorem pathEnd_nn (l : List Int) : ∀ x ∈ pathEnd l, 0 ≤ x := diffs_nonneg (srt_sorted _)
/-! ### sums over starts -/
theorem rot_rot {r : List Int} {k s : Nat} (hk : k ≤ r.length) (hs : s ≤ r.length) : rot (rot r k) s = if k + s ≤ r.length then rot r (k + s) else rot r (k + s - r.length) := by
  unfold rot
  by_cases h : k + s ≤ r.length
  · rw [if_pos h, List.drop_append_of_le_length (by rw [List.length_drop]; omega), List.take_append_of_le_length (by rw [List.length_drop]; omega), List.drop_drop, List.append_assoc]
    congr 1
    rw [List.take_add]
  · have d1 : (r.drop k ++ r.take k).drop s = (r.take k).drop (k + s - r.length) := by
      rw [List.drop_append, List.drop_of_length_le (l := r.drop k) (by rw [List.length_drop]; omega), List.nil_append, List.length_drop]
      congr 1
      omega
    have d2 : (r.drop k ++ r.take k).take s = r.drop k ++ (r.take k).take (k + s - r.length) := by
      rw [List.take_append, List.take_of_length_le (l := r.drop k) (by rw [List.length_drop]; omega), List.length_drop]
      congr 2
      omega
    have e2 : r.drop (k + s - r.length) = (r.take k).drop (k + s - r.length) ++ r.drop k := by
      have h1 : r.drop (k + s - r.length) = (r.take k ++ r.drop k).drop (k + s - r.length) := by rw [List.take_append_drop]
      rw [h1, List.drop_append_of_le_length (by rw [List.length_take]; omega)]
    rw [if_neg h, d1, d2, List.take_take, Nat.min_eq_left (by omega), ← List.append_assoc, ← e2]
theorem sum_range_add (f : Nat → Int) (a b : Nat) : ((List.range (a + b)).map f).sum = ((List.range a).map f).sum + ((List.range b).map fun j => f (a + j)).sum := by
  rw [List.range_add, List.map_append, List.sum_append, List.map_map]
  rfl
theorem sum_rot {r : List Int} {k : Nat} (hk : k ≤ r.length) (H : List Int → Int) : ((List.range r.length).map fun s => H (rot (rot r k) s)).sum = ((List.range r.length).map fun s => H (rot r s)).sum := by
  have e1 : r.length = (r.length - k) + k := by omega
  have e2 : r.length = k + (r.length - k) := by omega
  have h1 : ((List.range r.length).map fun s => H (rot (rot r k) s)).sum = ((List.range (r.length - k)).map fun s => H (rot (rot r k) s)).sum + ((List.range k).map fun j => H (rot (rot r k) (r.length - k + j))).sum := by
    rw [← sum_range_add, ← e1]
  have h2 : ((List.range r.length).map fun s => H (rot r s)).sum = ((List.range k).map fun s => H (rot r s)).sum + ((List.range (r.length - k)).map fun j => H (rot r (k + j))).sum := by
    rw [← sum_range_add, ← e2]
  rw [h1, h2]
  have a1 : (List.range (r.length - k)).map (fun s => H (rot (rot r k) s)) = (List.range (r.length - k)).map fun j => H (rot r (k + j)) := by
    apply map_congr_range
    intro s hs
    rw [rot_rot hk (by omega), if_pos (by omega)]
  have a2 : (List.range k).map (fun j => H (rot (rot r k) (r.length - k + j))) = (List.range k).map fun s => H (rot r s) := by
    apply map_congr_range
    intro s hs
    rw [rot_rot hk (by omega)]
    by_cases h : k + (r.length - k + s) ≤ r.length
    · have hs0 : s = 0 := by omega
      subst hs0
      rw [if_pos h, show k + (r.length - k + 0) = r.length by omega]
      congr 1
      unfold rot
      simp
    · rw [if_neg h, show k + (r.length - k + s) - r.length = s by omega]
  rw [a1, a2]
  omega
/-- an arc's worth -/
def worth (T a : Int) : Int := if a < 0 then (T - 1 - a) / T else 0
def worths (T : Int) (l : List Int) : Int := (l.map (worth T)).sum
theorem worths_app (T : Int) (u v : List Int) : worths T (u ++ v) = worths T u + worths T v := by
  unfold worths
  rw [List.map_append, List.sum_append]
theorem worths_filter (T : Int) : ∀ l : List Int, ((l.filter fun a => decide (a < 0)).map fun a => (T - 1 - a) / T).sum = worths T l
  | [] => rfl
  | a :: l => by
    have ih := worths_filter T l
    have e : worths T (a :: l) = worth T a + worths T l := by
      unfold worths
      rw [List.map_cons, List.sum_cons]
    rw [e, List.filter_cons]
    unfold worth
    by_cases h : a < 0
    · rw [if_pos (by simp; omega), if_pos h, List.map_cons, List.sum_cons, ih]
    · rw [if_neg (by simp; omega), if_neg h, ih]
      omega
def ringSum (T : Int) (r : List Int) : Int := ((List.range r.length).map fun s => worths T (psums 0 ((rot r s).take (r.length - 1)))).sum
theorem cycleSteps_ring (r : List Int) : cycleSteps r = if r.sum ≤ 0 then (if (r.any fun n => n != 0) = true then none else some 0) else some (ringSum r.sum r) := by
  unfold cycleSteps
  by_cases h : r.sum ≤ 0
  · rw [if_pos h, if_pos h]
  · rw [if_neg h, if_neg h, worths_filter]
    unfold arcs ringSum
    rw [flat_sum (worths_app r.sum) rfl]
    congr 2
    apply map_congr_range
    intro s hs
    rw [arcs_from hs]
theorem any_perm {l l' : List Int} {p : Int → Bool} (h : l.Perm l') : l.any p = l'.any p := by
  apply Bool.eq_iff_iff.mpr
  rw [List.any_eq_true, List.any_eq_true]
  constructor
  · rintro ⟨x, hx, hp⟩
    exact ⟨x, h.mem_iff.mp hx, hp⟩
  · rintro ⟨x, hx, hp⟩
    exact ⟨x, h.mem_iff.mpr hx, hp⟩
theorem cyc_rot_steps {r : List Int} {k : Nat} (hk : k ≤ r.length) : cycleSteps (rot r k) = cycleSteps r := by
  rw [cycleSteps_ring, cycleSteps_ring, perm_sum (rot_perm r k), any_perm (rot_perm r k)]
  congr 2
  unfold ringSum
  rw [rot_len]
  exact sum_rot hk fun l => worths r.sum (psums 0 (l.take (r.length - 1)))
/-! ### reversed rings -/
theorem sum_swap (F : Nat → Nat → Int) (m : Nat) : ∀ n : Nat, ((List.range n).map fun s => ((List.range m).map fun q => F s q).sum).sum = ((List.range m).map fun q => ((List.range n).map fun s => F s q).sum).sum
  | 0 => by
    have : ∀ l : List Nat, (l.map fun _ => (([] : List Int)).sum).sum = 0 := by
      intro l
      induction l with
      | nil => rfl
      | cons x l ih => rw [List.map_cons, List.sum_cons, ih]; rfl
    exact (this _).symm
  | n + 1 => by
    have key : ∀ l : List Nat, (l.map fun q => ((List.range (n + 1)).map fun s => F s q).sum).sum = (l.map fun q => ((List.range n).map fun s => F s q).sum).sum + (l.map fun q => F n q).sum := by
      intro l
      induction l with
      | nil => rfl
      | cons x l ih =>
        rw [List.map_cons, List.map_cons, List.map_cons, List.sum_cons, List.sum_cons, List.sum_cons, ih, List.range_succ, List.map_append, List.sum_append]
        simp
        omega
    rw [key, ← sum_swap F m n, List.range_succ, List.map_append, List.sum_append]
    simp
theorem sum_back (G : Nat → Int) : ∀ n : Nat, G n = G 0 → ((List.range n).map fun s => G (n - s)).sum = ((List.range n).map G).sum := fun n h => by
  have key : ∀ n : Nat, ((List.range n).map fun s => G (n - s)).sum = ((List.range n).map fun s => G (s + 1)).sum := by
    intro n
    induction n with
    | zero => rfl
    | succ n ih =>
      rw [List.range_succ_eq_map, List.map_cons, List.sum_cons, List.map_map]
      have e : (List.range n).map ((fun s => G (n + 1 - s)) ∘ Nat.succ) = (List.range n).map fun s => G (n - s) := by
        apply map_congr_range
        intro s _
        show G (n + 1 - (s + 1)) = G (n - s)
        rw [Nat.add_sub_add_right]
      rw [e, ih]
      have e2 : ((List.range (n + 1)).map fun s => G (s + 1)).sum = ((List.range n).map fun s => G (s + 1)).sum + G (n + 1) := by
        rw [List.range_succ, List.map_append, List.sum_append]
        simp
      rw [← List.range_succ_eq_map, e2]
      show G (n + 1 - 0) + _ = _
      rw [Nat.sub_zero]
      omega
  have shift : ∀ n : Nat, ((List.range n).map fun s => G (s + 1)).sum + G 0 = ((List.range n).map G).sum + G n := by
    intro n
    induction n with
    | zero => rfl
    | succ n ih =>
      rw [List.range_succ, List.map_append, List.map_append, List.sum_append, List.sum_append]
      simp
      omega
  have h2 := shift n
  rw [key]
  omega
theorem rot_reverse {r : List Int} {s : Nat} (hs : s ≤ r.length) : rot r.reverse s = (rot r (r.length - s)).reverse := by
  unfold rot
  rw [List.reverse_append, List.drop_reverse, List.take_reverse]
theorem worths_range (T : Int) (l : List Int) : worths T (psums 0 l) = ((List.range l.length).map fun q => worth T (l.take (q + 1)).sum).sum := by
  unfold worths
  rw [psums_range, List.map_map]
  congr 1
  apply List.map_congr_left
  intro q _
  show worth T (0 + (l.take (q + 1)).sum) = _
  rw [Int.zero_add]
theorem ringSum_double (T : Int) (r : List Int) : ringSum T r = ((List.range (r.length - 1)).map fun q => ((List.range r.length).map fun s => worth T ((rot r s).take (q + 1)).sum).sum).sum := by
  rw [← sum_swap]
  unfold ringSum
  congr 1
  apply map_congr_range
  intro s hs
  have hl : ((rot r s).take (r.length - 1)).length = r.length - 1 := by
    rw [List.length_take, rot_len]
    omega
  rw [worths_range, hl]
  congr 1
  apply map_congr_range
  intro q hq
  rw [List.take_take, Nat.min_eq_left (by omega)]
theorem cyc_rev_steps (r : List Int) : cycleSteps r.reverse = cycleSteps r := by
  rw [cycleSteps_ring, cycleSteps_ring, perm_sum r.reverse_perm, any_perm r.reverse_perm]
  congr 2
  rw [ringSum_double, ringSum_double, List.length_reverse]
  congr 1
  apply map_congr_range
  intro q hq
  have h1 : ((List.range r.length).map fun s => worth r.sum ((rot r.reverse s).take (q + 1)).sum) = (List.range r.length).map fun s => worth r.sum ((rot (rot r (r.length - s)) (r.length - (q + 1))).take (q + 1)).sum := by
    apply map_congr_range
    intro s hs
    congr 1
    have hl := rot_len r (r.length - s)
    have e : ((rot (rot r (r.length - s)) (r.length - (q + 1))).take (q + 1)) = (rot r (r.length - s)).drop (r.length - (q + 1)) := by
      show ((rot r (r.length - s)).drop (r.length - (q + 1)) ++ (rot r (r.length - s)).take (r.length - (q + 1))).take (q + 1) = _
      have hl2 : ((rot r (r.length - s)).drop (r.length - (q + 1))).length = q + 1 := by
        rw [List.length_drop, hl]
        omega
      rw [List.take_append_of_le_length (by omega), List.take_of_length_le (by omega)]
    rw [e, rot_reverse (by omega), List.take_reverse, hl, perm_reverse_sum]
  rw [h1]
  have h2 := sum_back (fun j => worth r.sum ((rot (rot r j) (r.length - (q + 1))).take (q + 1)).sum) r.length (by
    show worth r.sum ((rot (rot r r.length) (r.length - (q + 1))).take (q + 1)).sum = worth r.sum ((rot (rot r 0) (r.length - (q + 1))).take (q + 1)).sum
    congr 4
    unfold rot
    simp)
  refine h2.trans ?_
  have h3 : ((List.range r.length).map fun j => worth r.sum ((rot (rot r j) (r.length - (q + 1))).take (q + 1)).sum) = (List.range r.length).map fun j => worth r.sum ((rot (rot r (r.length - (q + 1))) j).take (q + 1)).sum := by
    apply map_congr_range
    intro s hs
    rw [rot_rot (by omega) (by omega), rot_rot (by omega) (by omega), Nat.add_comm s]
  rw [h3]
  exact sum_rot (k := r.length - (q + 1)) (by omega) fun l => worth r.sum (l.take (q + 1)).sum
/-! ### multiplied rings -/
theorem worth_mul {t T a : Int} (ht : 0 < t) (hT : 0 < T) : worth (t * T) (t * a) = worth T a := by
  unfold worth
  by_cases h : a < 0
  · rw [if_pos h, if_pos ((neg_iff ht).mpr h)]
    have h1 := Int.emod_add_mul_ediv (T - 1 - a) T
    have h2 := Int.emod_nonneg (T - 1 - a) (show T ≠ 0 by omega)
    have h3 := Int.emod_lt_of_pos (T - 1 - a) hT
    generalize (T - 1 - a) / T = q at h1
    generalize (T - 1 - a) % T = m at h1 h2 h3
    have e : t * T - 1 - t * a = (t * (m + 1) - 1) + t * T * q := by
      have : t * (T - a) = t * (m + 1 + T * q) := by
        congr 1
        omega
      rw [Int.mul_sub, Int.mul_add, ← Int.mul_assoc] at this
      omega
    have h4 : t * 1 ≤ t * (m + 1) := Int.mul_le_mul_of_nonneg_left (by omega) (Int.le_of_lt ht)
    have h5 : t * (m + 1) ≤ t * T := Int.mul_le_mul_of_nonneg_left (by omega) (Int.le_of_lt ht)
    rw [e, Int.add_mul_ediv_left _ _ (by have := Int.mul_pos ht hT; omega), Int.ediv_eq_zero_of_lt (by omega) (by omega), Int.zero_add]
  · rw [if_neg h, if_neg fun z => h ((neg_iff ht).mp z)]
theorem mul_sum (t : Int) : ∀ l : List Int, (mulL t l).sum = t * l.sum
  | [] => (Int.mul_zero t).symm
  | x :: l => by
    show (t * x :: mulL t l).sum = _
    rw [List.sum_cons, mul_sum t l, List.sum_cons, Int.mul_add]
theorem rot_mul (t : Int) (r : List Int) (s : Nat) : rot (mulL t r) s = mulL t (rot r s) := by
  unfold rot mulL
  rw [List.map_append, List.map_drop, List.map_take]
theorem worths_mul {t T : Int} (ht : 0 < t) (hT : 0 < T) (l : List Int) : worths (t * T) (mulL t l) = worths T l := by
  unfold worths mulL
  rw [List.map_map]
  congr 1
  apply List.map_congr_left
  intro a _
  exact worth_mul ht hT
theorem any_mul {t : Int} (ht : 0 < t) (l : List Int) : ((mulL t l).any fun n => n != 0) = l.any fun n => n != 0 := by
  unfold mulL
  rw [List.any_map]
  congr 1
  funext x
  show (t * x != 0) = (x != 0)
  by_cases h : x = 0
  · subst h
    simp
  · have h2 : t * x ≠ 0 := fun z => by
      rcases Int.mul_eq_zero.mp z with e | e <;> omega
    rw [bne_iff_ne.mpr h, bne_iff_ne.mpr h2]
theorem mul_pos_iff {t x : Int} (ht : 0 < t) : t * x ≤ 0 ↔ x ≤ 0 := by
  constructor
  · intro h
    apply Int.not_lt.mp
    intro h2
    have := Int.mul_pos ht h2
    omega
  · intro h
    have := Int.mul_le_mul_of_nonneg_left h (Int.le_of_lt ht)
    rw [Int.mul_zero] at this
    exact this
theorem cyc_mul_steps {t : Int} (ht : 0 < t) (r : List Int) : cycleSteps (mulL t r) = cycleSteps r := by
  rw [cycleSteps_ring, cycleSteps_ring, mul_sum, any_mul ht]
  by_cases h : r.sum ≤ 0
  · rw [if_pos h, if_pos ((mul_pos_iff ht).mpr h)]
  · rw [if_neg h, if_neg fun z => h ((mul_pos_iff ht).mp z)]
    congr 1
    unfold ringSum
    rw [show (mulL t r).length = r.length from List.length_map _]
    congr 1
    apply map_congr_range
    intro s hs
    have hp := psums_mul t 0 ((rot r s).take (r.length - 1))
    rw [Int.mul_zero] at hp
    rw [rot_mul, show (mulL t (rot r s)).take (r.length - 1) = mulL t ((rot r s).take (r.length - 1)) from (List.map_take ..).symm, hp, worths_mul ht (by omega)]
/-! ### what a window is -/
structure IsWin (T : Int) (s : List Int) (w0 : Int) (wr : List Int) : Prop where
  len : (w0 :: wr).length = s.length
  asc : (w0 :: wr).Pairwise (· ≤ ·)
  top : ∀ x ∈ w0 :: wr, x ≤ w0 + T
  res : ((w0 :: wr).map fun x => x % T).Perm (s.map fun x => x % T)
  sum : (w0 :: wr).sum = s.sum
theorem IsWin.eq {T : Int} {s : List Int} {w0 : Int} {wr : List Int} (h : IsWin T s w0 wr) (hT : 0 < T) : window T s = w0 :: wr := window_eq hT h.len h.asc h.top h.res h.sum
theorem IsWin.low {T : Int} {s : List Int} {w0 : Int} {wr : List Int} (h : IsWin T s w0 wr) : ∀ x ∈ w0 :: wr, w0 ≤ x := fun x hx => by
  rcases List.mem_cons.mp hx with e | hx
  · omega
  · exact (List.pairwise_cons.mp h.asc).1 x hx
theorem sum_map_add (c : Int) : ∀ l : List Int, (l.map fun x => x + c).sum = l.sum + (l.length : Int) * c
  | [] => by simp
  | x :: l => by
    rw [List.map_cons, List.sum_cons, sum_map_add c l, List.sum_cons, List.length_cons, Int.natCast_add, Int.add_mul]
    omega
theorem sum_mods (T : Int) : ∀ s : List Int, s.sum - (s.map fun x => x % T).sum = T * (s.map fun x => x / T).sum
  | [] => by simp
  | x :: s => by
    have ih := sum_mods T s
    have h := Int.emod_add_mul_ediv x T
    rw [List.map_cons, List.map_cons, List.sum_cons, List.sum_cons, List.sum_cons, Int.mul_add]
    omega
theorem win_exists {T : Int} {s : List Int} (hT : 0 < T) (hs : s ≠ []) : ∃ w0 wr, IsWin T s w0 wr := by
  have hn : 0 < s.length := List.length_pos_iff.mpr hs
  have hp := srt_perm (s.map fun x => x % T)
  have ha := srt_sorted (s.map fun x => x % T)
  generalize srt (s.map fun x => x % T) = R at hp ha
  have hl : R.length = s.length := by rw [hp.length_eq, List.length_map]
  have hr : ∀ x ∈ R, 0 ≤ x ∧ x < T := fun x hx => by
    obtain ⟨y, _, rfl⟩ := List.mem_map.mp (hp.mem_iff.mp hx)
    exact ⟨Int.emod_nonneg y (by omega), Int.emod_lt_of_pos y hT⟩
  have hsum : s.sum - R.sum = T * (s.map fun x => x / T).sum := by rw [perm_sum hp, sum_mods]
  generalize (s.map fun x => x / T).sum = k at hsum
  have hk := Int.emod_add_mul_ediv k (s.length : Int)
  have hk0 := Int.emod_nonneg k (show (s.length : Int) ≠ 0 by omega)
  have hk1 := Int.emod_lt_of_pos k (show 0 < (s.length : Int) by omega)
  generalize k / (s.length : Int) = u at hk
  obtain ⟨p, hp2⟩ := Int.eq_ofNat_of_zero_le hk0
  rw [hp2] at hk hk1
  have hpl : p < R.length := by omega
  have e : (R.drop p).map (fun r => r + u * T) ++ (R.take p).map (fun r => r + (u + 1) * T) = (R[p] + u * T) :: ((R.drop (p + 1)).map (fun r => r + u * T) ++ (R.take p).map (fun r => r + (u + 1) * T)) := by
    rw [List.drop_eq_getElem_cons hpl, List.map_cons, List.cons_append]
  have hmul : (u + 1) * T = u * T + T := by rw [Int.add_mul, Int.one_mul]
  have hasR : R.take p ++ R.drop p = R := List.take_append_drop p R
  have hcross : ∀ x ∈ R.take p, x ≤ R[p] := fun x hx => by
    rw [← hasR, List.pairwise_append] at ha
    exact ha.2.2 x hx R[p] (by rw [List.drop_eq_getElem_cons hpl]; exact List.mem_cons_self)
  have hpR : 0 ≤ R[p] := (hr _ (List.getElem_mem hpl)).1
  refine ⟨R[p] + u * T, (R.drop (p + 1)).map (fun r => r + u * T) ++ (R.take p).map (fun r => r + (u + 1) * T), ?_, ?_, ?_, ?_, ?_⟩
  · rw [← e, List.length_append, List.length_map, List.length_map, List.length_drop, List.length_take]
    omega
  · rw [← e]
    rw [← hasR, List.pairwise_append] at ha
    refine List.pairwise_append.mpr ⟨List.pairwise_map.mpr (ha.2.1.imp fun {x y} h => by omega), List.pairwise_map.mpr (ha.1.imp fun {x y} h => by omega), fun x hx y hy => ?_⟩
    obtain ⟨a, ha', rfl⟩ := List.mem_map.mp hx
    obtain ⟨b, hb', rfl⟩ := List.mem_map.mp hy
    have h1 := hr a (List.mem_of_mem_drop ha')
    have h2 := hr b (List.mem_of_mem_take hb')
    rw [hmul]
    omega
  · rw [← e]
    intro x hx
    rcases List.mem_append.mp hx with hx | hx
    · obtain ⟨a, ha', rfl⟩ := List.mem_map.mp hx
      have h1 := hr a (List.mem_of_mem_drop ha')
      omega
    · obtain ⟨a, ha', rfl⟩ := List.mem_map.mp hx
      have h1 := hcross a ha'
      rw [hmul]
      omega
  · rw [← e, List.map_append, List.map_map, List.map_map]
    have m1 : (R.drop p).map ((fun x => x % T) ∘ fun r => r + u * T) = R.drop p := by
      refine (List.map_congr_left (g := id) fun x hx => ?_).trans (List.map_id _)
      have h1 := hr x (List.mem_of_mem_drop hx)
      show (x + u * T) % T = x
      rw [Int.add_mul_emod_self_right, Int.emod_eq_of_lt h1.1 h1.2]
    have m2 : (R.take p).map ((fun x => x % T) ∘ fun r => r + (u + 1) * T) = R.take p := by
      refine (List.map_congr_left (g := id) fun x hx => ?_).trans (List.map_id _)
      have h1 := hr x (List.mem_of_mem_take hx)
      show (x + (u + 1) * T) % T = x
      rw [Int.add_mul_emod_self_right, Int.emod_eq_of_lt h1.1 h1.2]
    rw [m1, m2]
    refine List.Perm.trans ?_ hp
    refine List.perm_append_comm.trans ?_
    rw [hasR]
  · rw [← e, List.sum_append, sum_map_add, sum_map_add]
    have h1 : R.sum = (R.take p).sum + (R.drop p).sum := by rw [← List.sum_append, hasR]
    have h2 : ((R.drop p).length : Int) = (s.length : Int) - p := by
      rw [List.length_drop, hl]
      omega
    have h3 : ((R.take p).length : Int) = p := by
      rw [List.length_take]
      omega
    rw [h2, h3, hmul, Int.sub_mul, Int.mul_add]
    have h4 : T * k = T * p + T * ((s.length : Int) * u) := by
      rw [← hk, Int.mul_add]
    have h5 : (s.length : Int) * (u * T) = T * ((s.length : Int) * u) := by rw [← Int.mul_assoc, Int.mul_comm]
    have h6 : (p : Int) * T = T * p := Int.mul_comm _ _
    omega
/-! ### the ends of rings -/
def pre : Int → List Int → List Int
  | _, [] => []
  | c, x :: l => c :: pre (c + x) l
theorem pre_len : ∀ (c : Int) (l : List Int), (pre c l).length = l.length
  | _, [] => rfl
  | c, x :: l => by rw [pre, List.length_cons, pre_len, List.length_cons]
theorem sums_pre : ∀ (c : Int) (l : List Int), sums c l = pre c l ++ [c + l.sum]
  | c, [] => by simp [sums, pre]
  | c, x :: l => by
    rw [sums, pre, sums_pre (c + x) l, List.sum_cons, List.cons_append, Int.add_assoc]
theorem take_pre (c : Int) (l : List Int) : (sums c l).take l.length = pre c l := by
  rw [sums_pre, List.take_append_of_le_length (by rw [pre_len]; exact Nat.le_refl _), List.take_of_length_le (by rw [pre_len]; exact Nat.le_refl _)]
theorem pre_app : ∀ (c : Int) (u v : List Int), pre c (u ++ v) = pre c u ++ pre (c + u.sum) v
  | c, [], v => by simp [pre]
  | c, x :: u, v => by rw [List.cons_append, pre, pre, pre_app, List.sum_cons, List.cons_append, Int.add_assoc]
theorem pre_add (c d : Int) : ∀ l : List Int, pre (d + c) l = (pre d l).map fun x => x + c
  | [] => rfl
  | x :: l => by
    rw [pre, pre, List.map_cons, show d + c + x = (d + x) + c by omega, pre_add c (d + x) l]
theorem cycleEnd_win {r : List Int} {w0 : Int} {wr : List Int} (hT : 0 < r.sum) (h : IsWin r.sum (pre 0 r) w0 wr) : cycleEnd r = some (diffs (w0 :: wr ++ [w0 + r.sum])) := by
  unfold cycleEnd
  rw [if_neg (by omega), take_pre, h.eq hT]
  rfl
theorem win_of {r : List Int} (hT : 0 < r.sum) : ∃ w0 wr, IsWin r.sum (pre 0 r) w0 wr := by
  refine win_exists hT fun h => ?_
  cases r with
  | nil => simp at hT
  | cons x l => simp [pre] at h
theorem mod_sub {T c x y : Int} (h : x % T = y % T) : (x - c) % T = (y - c) % T := by rw [Int.sub_emod, h, ← Int.sub_emod]
/-- residues of what is shifted -/
theorem perm_shift {T : Int} {u v : List Int} (f : Int → Int) (hf : ∀ x, f (x % T) % T = f x % T) (h : (u.map fun x => x % T).Perm (v.map fun x => x % T)) : (u.map fun x => f x % T).Perm (v.map fun x => f x % T) := by
  have h2 := h.map fun y => f y % T
  rw [List.map_map, List.map_map] at h2
  have e : ((fun y => f y % T) ∘ fun x => x % T) = fun x => f x % T := by
    funext x
    exact hf x
  rw [e] at h2
  exact h2
theorem diffs_split (u : List Int) (y : Int) (v : List Int) : diffs (u ++ y :: v) = diffs (u ++ [y]) ++ diffs (y :: v) := by
  rcases List.eq_nil_or_concat u with e | ⟨u', x, e⟩
  · subst e
    rfl
  · rw [List.concat_eq_append] at e
    subst e
    rw [diffs_app, diffs_snoc, List.append_assoc]
    rfl
theorem diffs_addr (c : Int) (l : List Int) : diffs (l.map fun x => x + c) = diffs l := by
  have e : (l.map fun x => x + c) = l.map fun x => c + x := List.map_congr_left fun x _ => Int.add_comm _ _
  rw [e, diffs_add]
theorem cyc_rot_end {r : List Int} {k : Nat} (hk : k < r.length) : cycleEnd (rot r k) = (cycleEnd r).map fun e => rot e k := by
  by_cases hT : 0 < r.sum
  · obtain ⟨w0, wr, h⟩ := win_of hT
    have hsum := perm_sum (rot_perm r k)
    rw [cycleEnd_win hT h]
    have hl : (w0 :: wr).length = r.length := by rw [h.len, pre_len]
    generalize hw : w0 :: wr = w at *
    have hkl : k < w.length := by omega
    obtain ⟨b0, B, hB⟩ : ∃ b0 B, w.drop k = b0 :: B := ⟨w[k], w.drop (k + 1), List.drop_eq_getElem_cons hkl⟩
    have hAB : w.take k ++ b0 :: B = w := by rw [← hB, List.take_append_drop]
    generalize hA : w.take k = A at hAB
    have hAl : A.length = k := by
      rw [← hA, List.length_take]
      omega
    have hcr : cycleEnd (rot r k) = some (diffs (((b0 :: B).map fun x => x + -(r.take k).sum) ++ (A.map fun x => x + (r.sum - (r.take k).sum)) ++ [b0 + -(r.take k).sum + r.sum])) := by
      have hsp : r.take k ++ r.drop k = r := List.take_append_drop k r
      have hs2 : (r.drop k).sum = r.sum - (r.take k).sum := by
        have := List.sum_append (l₁ := r.take k) (l₂ := r.drop k)
        rw [hsp] at this
        omega
      have hpre : pre 0 (rot r k) = ((pre (r.take k).sum (r.drop k)).map fun x => x + -(r.take k).sum) ++ ((pre 0 (r.take k)).map fun x => x + (r.sum - (r.take k).sum)) := by
        unfold rot
        rw [pre_app, ← pre_add, ← pre_add, hs2]
        congr 2
        omega
      have hpr : pre 0 r = pre 0 (r.take k) ++ pre (r.take k).sum (r.drop k) := by
        have := pre_app 0 (r.take k) (r.drop k)
        rw [hsp, Int.zero_add] at this
        exact this
      have hlp : (pre 0 (r.take k)).length = k := by
        rw [pre_len, List.length_take]
        omega
      generalize (r.take k).sum = c at *
      have asc := h.asc
      rw [hw, ← hAB, List.pairwise_append] at asc
      have win : IsWin (rot r k).sum (pre 0 (rot r k)) (b0 + -c) ((B.map fun x => x + -c) ++ A.map fun x => x + (r.sum - c)) := by
        rw [hsum, hpre]
        have e0 : (b0 + -c) :: ((B.map fun x => x + -c) ++ A.map fun x => x + (r.sum - c)) = ((b0 :: B).map fun x => x + -c) ++ A.map fun x => x + (r.sum - c) := rfl
        have top := h.top
        have low := h.low
        rw [hw] at top low
        have inA : ∀ x ∈ A, x ∈ w := fun x hx => by rw [← hAB]; exact List.mem_append_left _ hx
        have inB : ∀ x ∈ b0 :: B, x ∈ w := fun x hx => by rw [← hAB]; exact List.mem_append_right _ hx
        refine ⟨?_, ?_, ?_, ?_, ?_⟩
        · rw [e0, List.length_append, List.length_append, List.length_map, List.length_map, List.length_map, List.length_map, hlp]
          have h1 : w.length = A.length + (b0 :: B).length := by rw [← hAB, List.length_append]
          have h2 : (pre 0 r).length = k + (pre c (r.drop k)).length := by rw [hpr, List.length_append, hlp]
          rw [pre_len] at h2
          omega
        · rw [e0]
          refine List.pairwise_append.mpr ⟨List.pairwise_map.mpr (asc.2.1.imp fun {x y} h => by omega), List.pairwise_map.mpr (asc.1.imp fun {x y} h => by omega), fun x hx y hy => ?_⟩
          obtain ⟨b, hb, rfl⟩ := List.mem_map.mp hx
          obtain ⟨a, ha, rfl⟩ := List.mem_map.mp hy
          have h1 := top b (inB b hb)
          have h2 := low a (inA a ha)
          omega
        · rw [e0]
          intro x hx
          have h0 := low b0 (inB b0 List.mem_cons_self)
          rcases List.mem_append.mp hx with hx | hx
          · obtain ⟨b, hb, rfl⟩ := List.mem_map.mp hx
            have h1 := top b (inB b hb)
            omega
          · obtain ⟨a, ha, rfl⟩ := List.mem_map.mp hx
            have h1 := asc.2.2 a ha b0 List.mem_cons_self
            omega
        · rw [e0]
          have em : ∀ u v : List Int, ((u.map fun x => x + -c) ++ v.map fun x => x + (r.sum - c)).map (fun x => x % r.sum) = (u ++ v).map fun x => (x + -c) % r.sum := fun u v => by
            rw [List.map_append, List.map_append, List.map_map, List.map_map]
            congr 1
            apply List.map_congr_left
            intro x _
            show (x + (r.sum - c)) % r.sum = (x + -c) % r.sum
            rw [show x + (r.sum - c) = (x + -c) + r.sum by omega, Int.add_emod_right]
          rw [em, em]
          refine perm_shift (fun x => x + -c) (fun x => by
            show (x % r.sum + -c) % r.sum = (x + -c) % r.sum
            rw [Int.emod_add_emod]) ?_
          have h1 : (b0 :: B ++ A).Perm w := by
            rw [← hAB]
            exact List.perm_append_comm
          have h2 : (pre c (r.drop k) ++ pre 0 (r.take k)).Perm (pre 0 r) := by
            rw [hpr]
            exact List.perm_append_comm
          have h3 := h.res
          rw [hw] at h3
          exact ((h1.map _).trans h3).trans (h2.map _).symm
        · rw [e0, List.sum_append, List.sum_append, sum_map_add, sum_map_add, sum_map_add, sum_map_add, hlp, hAl]
          have h1 : w.sum = A.sum + (b0 :: B).sum := by rw [← hAB, List.sum_append]
          have h2 : (pre 0 r).sum = (pre 0 (r.take k)).sum + (pre c (r.drop k)).sum := by rw [hpr, List.sum_append]
          have h3 := h.sum
          rw [hw] at h3
          have h4 : (b0 :: B).length = (pre c (r.drop k)).length := by
            have h1 : w.length = A.length + (b0 :: B).length := by rw [← hAB, List.length_append]
            rw [pre_len, List.length_drop]
            omega
          rw [h4]
          omega
      rw [cycleEnd_win (by rw [hsum]; exact hT) win, hsum]
      rfl
    rw [hcr]
    show some _ = some (rot (diffs (w ++ [w0 + r.sum])) k)
    congr 1
    generalize (r.take k).sum = c
    have hlA : (diffs (A ++ [b0])).length = k := by
      rw [diffs_len, List.length_append, hAl]
      rfl
    have e1 : diffs (w ++ [w0 + r.sum]) = diffs (A ++ [b0]) ++ diffs (b0 :: B ++ [w0 + r.sum]) := by
      rw [← hAB, List.append_assoc, List.cons_append, diffs_split]
    have e2 : rot (diffs (w ++ [w0 + r.sum])) k = diffs (b0 :: B ++ [w0 + r.sum]) ++ diffs (A ++ [b0]) := by
      unfold rot
      rw [e1, List.drop_append, List.take_append, List.drop_of_length_le (by omega), List.take_of_length_le (by omega), hlA, Nat.sub_self, List.take_zero, List.append_nil]
      rfl
    rw [e2]
    cases A with
    | nil =>
      have hb : b0 = w0 := by
        have : b0 :: B = w0 :: wr := by rw [hw]; exact hAB
        exact (List.cons.inj this).1
      subst hb
      rw [List.map_nil, List.append_nil, List.nil_append, diffs_one, List.append_nil]
      have e3 : (b0 :: B).map (fun x => x + -c) ++ [b0 + -c + r.sum] = (b0 :: B ++ [b0 + r.sum]).map fun x => x + -c := by
        rw [List.map_append, List.map_singleton, show b0 + -c + r.sum = b0 + r.sum + -c by omega]
      rw [e3, diffs_addr]
    | cons a A' =>
      have ha : a = w0 := by
        have : a :: (A' ++ b0 :: B) = w0 :: wr := by rw [hw]; exact hAB
        exact (List.cons.inj this).1
      subst ha
      have e3 : (b0 :: B).map (fun x => x + -c) ++ (a :: A').map (fun x => x + (r.sum - c)) ++ [b0 + -c + r.sum] = (b0 :: B).map (fun x => x + -c) ++ (a + (r.sum - c)) :: (A'.map (fun x => x + (r.sum - c)) ++ [b0 + -c + r.sum]) := by
        rw [List.append_assoc]
        rfl
      rw [e3, diffs_split]
      congr 1
      · have e4 : (b0 :: B).map (fun x => x + -c) ++ [a + (r.sum - c)] = (b0 :: B ++ [a + r.sum]).map fun x => x + -c := by
          rw [List.map_append, List.map_singleton, show a + (r.sum - c) = a + r.sum + -c by omega]
        rw [e4, diffs_addr]
      · have e4 : (a + (r.sum - c)) :: (A'.map (fun x => x + (r.sum - c)) ++ [b0 + -c + r.sum]) = (a :: A' ++ [b0]).map fun x => x + (r.sum - c) := by
          rw [List.map_append, List.map_singleton, List.map_cons, show b0 + -c + r.sum = b0 + (r.sum - c) by omega]
          rfl
        rw [e4, diffs_addr]
  · have hp := rot_perm r k
    unfold cycleEnd
    rw [perm_sum hp, any_perm hp, if_pos (show r.sum ≤ 0 by omega), if_pos (show r.sum ≤ 0 by omega)]
    by_cases ha : (r.any fun n => n != 0) = true
    · rw [if_pos ha, if_pos ha]
      rfl
    · rw [if_neg ha, if_neg ha]
      rfl
/-! reversed -/
theorem pre_rev (r : List Int) : pre 0 r.reverse = ((psums 0 r).reverse).map fun x => r.sum - x := by
  have h1 := take_pre 0 r.reverse
  rw [sums_rev, sums_ps, List.reverse_cons, List.map_append, List.length_reverse] at h1
  have hl : (((psums 0 r).reverse).map fun x => 0 + r.sum - x).length = r.length := by
    have h2 := sums_len 0 r
    rw [sums_ps, List.length_cons] at h2
    rw [List.length_map, List.length_reverse]
    omega
  rw [← h1, List.take_append_of_le_length (by omega), List.take_of_length_le (by omega)]
  apply List.map_congr_left
  intro x _
  omega
theorem psums_pre (r : List Int) : (0 : Int) :: psums 0 r = pre 0 r ++ [r.sum] := by
  rw [← sums_ps, sums_pre, Int.zero_add]
theorem sum_map_rsub (c : Int) : ∀ l : List Int, (l.map fun x => c - x).sum = (l.length : Int) * c - l.sum
  | [] => by simp
  | x :: l => by
    rw [List.map_cons, List.sum_cons, sum_map_rsub c l, List.sum_cons, List.length_cons, Int.natCast_add, Int.add_mul]
    omega
theorem cyc_rev_end (r : List Int) : cycleEnd r.reverse = (cycleEnd r).map List.reverse := by
  by_cases hT : 0 < r.sum
  · obtain ⟨w0, wr, h⟩ := win_of hT
    have hsum := perm_sum r.reverse_perm
    rw [cycleEnd_win hT h]
    have hps : (psums 0 r).length = r.length := by
      have h2 := sums_len 0 r
      rw [sums_ps, List.length_cons] at h2
      omega
    have hl : (w0 :: wr).length = r.length := by rw [h.len, pre_len]
    have hpp := psums_pre r
    have hmods : ((psums 0 r).map fun x => x % r.sum).Perm ((pre 0 r).map fun x => x % r.sum) := by
      have h1 := congrArg (fun l : List Int => l.map fun x => x % r.sum) hpp
      rw [List.map_cons, List.map_append, List.map_singleton, Int.zero_emod, Int.emod_self] at h1
      have h2 : (0 :: (psums 0 r).map fun x => x % r.sum).Perm (0 :: (pre 0 r).map fun x => x % r.sum) := by
        rw [h1]
        exact List.perm_append_comm
      exact h2.cons_inv
    have hsums : (psums 0 r).sum = (pre 0 r).sum + r.sum := by
      have h1 := congrArg List.sum hpp
      rw [List.sum_cons, List.sum_append] at h1
      simp at h1
      omega
    have top := h.top
    have low := h.low
    have asc := h.asc
    have ascE : (wr ++ [w0 + r.sum]).Pairwise (· ≤ ·) := List.pairwise_append.mpr ⟨(List.pairwise_cons.mp asc).2, List.pairwise_singleton _ _, fun x hx y hy => by
      rw [List.mem_singleton] at hy
      rw [hy]
      exact top x (List.mem_cons_of_mem _ hx)⟩
    have win : IsWin r.reverse.sum (pre 0 r.reverse) (-w0) ((wr.reverse).map fun x => r.sum - x) := by
      rw [hsum, pre_rev]
      have e0 : -w0 :: ((wr.reverse).map fun x => r.sum - x) = ((wr ++ [w0 + r.sum]).reverse).map fun x => r.sum - x := by
        rw [List.reverse_append, List.map_append]
        show _ = (r.sum - (w0 + r.sum)) :: _
        rw [show r.sum - (w0 + r.sum) = -w0 by omega]
        rfl
      have inw : ∀ x ∈ wr ++ [w0 + r.sum], w0 ≤ x := fun x hx => by
        rcases List.mem_append.mp hx with hx | hx
        · exact low x (List.mem_cons_of_mem _ hx)
        · rw [List.mem_singleton] at hx
          omega
      refine ⟨?_, ?_, ?_, ?_, ?_⟩
      · rw [List.length_cons, List.length_map, List.length_reverse, List.length_map, List.length_reverse, hps, ← hl, List.length_cons]
      · rw [e0, List.pairwise_map, List.pairwise_reverse]
        exact ascE.imp fun {x y} h => by omega
      · rw [e0]
        intro x hx
        obtain ⟨y, hy, rfl⟩ := List.mem_map.mp hx
        have h1 := inw y (List.mem_reverse.mp hy)
        omega
      · rw [e0, List.map_map, List.map_map]
        refine perm_shift (T := r.sum) (fun x => r.sum - x) (fun x => ?_) ?_
        · show (r.sum - x % r.sum) % r.sum = (r.sum - x) % r.sum
          rw [Int.sub_emod, Int.emod_emod, ← Int.sub_emod]
        · refine (List.Perm.map _ (List.reverse_perm _)).trans ?_
          refine List.Perm.trans ?_ (List.Perm.map _ (List.reverse_perm _)).symm
          refine List.Perm.trans ?_ hmods.symm
          refine List.Perm.trans ?_ h.res
          rw [List.map_append, List.map_singleton, Int.add_emod_right, List.map_cons]
          exact List.perm_append_comm
      · rw [e0, sum_map_rsub, sum_map_rsub, List.length_reverse, List.length_reverse, perm_reverse_sum, perm_reverse_sum, hps, hsums, ← h.sum, List.sum_append, List.sum_cons, List.length_append]
        rw [List.length_cons] at hl
        have h1 : ((wr.length + [w0 + r.sum].length : Nat) : Int) = r.length := by
          simp
          omega
        rw [h1]
        simp
        omega
    rw [cycleEnd_win (by rw [hsum]; exact hT) win, hsum]
    show some _ = some (List.reverse _)
    congr 1
    rw [← diffs_rev r.sum]
    congr 1
    rw [List.reverse_append, List.map_append, List.reverse_cons (a := w0), List.map_append]
    show -w0 :: (List.map (fun x => r.sum - x) wr.reverse ++ [-w0 + r.sum]) = (r.sum - (w0 + r.sum)) :: (List.map (fun x => r.sum - x) wr.reverse ++ [r.sum - w0])
    rw [show r.sum - (w0 + r.sum) = -w0 by omega, show -w0 + r.sum = r.sum - w0 by omega]
  · have hp := r.reverse_perm
    unfold cycleEnd
    rw [perm_sum hp, any_perm hp, if_pos (show r.sum ≤ 0 by omega), if_pos (show r.sum ≤ 0 by omega)]
    by_cases ha : (r.any fun n => n != 0) = true
    · rw [if_pos ha, if_pos ha]
      rfl
    · rw [if_neg ha, if_neg ha]
      rfl
/-! multiplied -/
theorem pre_mul (t : Int) : ∀ (c : Int) (l : List Int), pre (t * c) (mulL t l) = mulL t (pre c l)
  | c, [] => rfl
  | c, x :: l => by
    have ih := pre_mul t (c + x) l
    show (t * c) :: pre (t * c + t * x) (mulL t l) = (t * c) :: mulL t (pre (c + x) l)
    rw [← Int.mul_add, ih]
theorem cyc_mul_end {t : Int} (ht : 0 < t) (r : List Int) : cycleEnd (mulL t r) = (cycleEnd r).map (mulL t) := by
  by_cases hT : 0 < r.sum
  · obtain ⟨w0, wr, h⟩ := win_of hT
    have hsum := mul_sum t r
    have hT2 : 0 < t * r.sum := Int.mul_pos ht hT
    rw [cycleEnd_win hT h]
    have hp := pre_mul t 0 r
    rw [Int.mul_zero] at hp
    have win : IsWin (mulL t r).sum (pre 0 (mulL t r)) (t * w0) (mulL t wr) := by
      rw [hsum, hp]
      have e0 : t * w0 :: mulL t wr = mulL t (w0 :: wr) := rfl
      refine ⟨?_, ?_, ?_, ?_, ?_⟩
      · rw [e0]
        unfold mulL
        rw [List.length_map, List.length_map, h.len]
      · rw [e0]
        unfold mulL
        rw [List.pairwise_map]
        exact h.asc.imp fun {x y} h => Int.mul_le_mul_of_nonneg_left h (Int.le_of_lt ht)
      · rw [e0]
        intro x hx
        obtain ⟨y, hy, rfl⟩ := List.mem_map.mp hx
        rw [← Int.mul_add]
        exact Int.mul_le_mul_of_nonneg_left (h.top y hy) (Int.le_of_lt ht)
      · rw [e0]
        unfold mulL
        rw [List.map_map, List.map_map]
        have e1 : ((fun x => x % (t * r.sum)) ∘ fun x => t * x) = fun x => t * (x % r.sum) := by
          funext x
          show t * x % (t * r.sum) = t * (x % r.sum)
          rw [Int.mul_emod_mul_of_pos _ _ ht]
        rw [e1]
        have h2 := h.res.map fun y => t * y
        rw [List.map_map, List.map_map] at h2
        exact h2
      · rw [e0, mul_sum, mul_sum, h.sum]
    rw [cycleEnd_win (by rw [hsum]; exact hT2) win, hsum]
    show some _ = some (mulL t _)
    congr 1
    rw [← diffs_mul]
    congr 1
    show t * w0 :: (mulL t wr ++ [t * w0 + t * r.sum]) = mulL t (w0 :: wr ++ [w0 + r.sum])
    unfold mulL
    rw [List.map_append, List.map_singleton, Int.mul_add]
    rfl
  · unfold cycleEnd
    rw [mul_sum, any_mul ht, if_pos (show r.sum ≤ 0 by omega), if_pos ((mul_pos_iff ht).mpr (by omega))]
    by_cases ha : (r.any fun n => n != 0) = true
    · rw [if_pos ha, if_pos ha]
      rfl
    · rw [if_neg ha, if_neg ha]
      rfl
/-! what has ended -/
theorem sums_diffs : ∀ (c x : Int) (l : List Int), sums c (diffs (x :: l)) = (x :: l).map fun y => y + (c - x)
  | c, x, [] => by
    show [c] = [x + (c - x)]
    congr 1
    omega
  | c, x, y :: l => by
    have ih := sums_diffs (c + (y - x)) y l
    rw [diffs_cons, sums, ih, show c + (y - x) - y = c - x by omega, List.map_cons (a := x), show x + (c - x) = c by omega]
theorem cycleEnd_len {r e : List Int} (h : cycleEnd r = some e) : e.length = r.length := by
  by_cases hT : 0 < r.sum
  · obtain ⟨w0, wr, hw⟩ := win_of hT
    rw [cycleEnd_win hT hw] at h
    cases h
    rw [diffs_len, List.length_append, hw.len, pre_len]
    rfl
  · unfold cycleEnd at h
    rw [if_pos (show r.sum ≤ 0 by omega)] at h
    split at h
    · cases h
    · cases h
      rfl
theorem cycleEnd_facts {r e : List Int} (hT : 0 < r.sum) (h : cycleEnd r = some e) : (∀ x ∈ e, 0 ≤ x) ∧ e.sum = r.sum := by
  obtain ⟨w0, wr, hw⟩ := win_of hT
  rw [cycleEnd_win hT hw] at h
  cases h
  refine ⟨diffs_nonneg (List.pairwise_append.mpr ⟨hw.asc, List.pairwise_singleton _ _, fun x hx y hy => ?_⟩), ?_⟩
  · rw [List.mem_singleton] at hy
    rw [hy]
    exact hw.top x hx
  · rw [diffs_sum]
    omega
theorem all_zero {l : List Int} (h : ¬ (l.any fun n => n != 0) = true) : ∀ x ∈ l, x = 0 := fun x hx => by
  apply Decidable.byContradiction
  intro hx0
  exact h (List.any_eq_true.mpr ⟨x, hx, bne_iff_ne.mpr hx0⟩)
theorem ringSum_zero {T : Int} {l : List Int} (h : ∀ x ∈ l, 0 ≤ x) : ringSum T l = 0 := by
  unfold ringSum
  have e : ∀ s < l.length, worths T (psums 0 ((rot l s).take (l.length - 1))) = 0 := fun s _ => by
    unfold worths
    have e1 : (psums 0 ((rot l s).take (l.length - 1))).map (worth T) = (psums 0 ((rot l s).take (l.length - 1))).map fun _ => 0 := by
      apply List.map_congr_left
      intro a ha
      have h1 := (psums_np 0 _ a ha).1
      have h2 := neg_take (rot l s) (l.length - 1)
      rw [neg_perm (rot_perm l s), neg_zero h] at h2
      unfold worth
      rw [if_neg (by omega)]
    rw [e1]
    clear e1
    induction psums 0 ((rot l s).take (l.length - 1)) with
    | nil => rfl
    | cons x l ih => rw [List.map_cons, List.sum_cons, ih]; rfl
  rw [map_congr_range e]
  induction List.range l.length with
  | nil => rfl
  | cons x l ih => rw [List.map_cons, List.sum_cons, ih]; rfl
theorem cyc_end_self {r e : List Int} (h : cycleEnd r = some e) : cycleSteps e = some 0 ∧ cycleEnd e = some e := by
  by_cases hT : 0 < r.sum
  · obtain ⟨hnn, hs⟩ := cycleEnd_facts hT h
    have hT2 : 0 < e.sum := by omega
    refine ⟨?_, ?_⟩
    · rw [cycleSteps_ring, if_neg (by omega), ringSum_zero hnn]
    · obtain ⟨w0, wr, hw⟩ := win_of hT
      have he : e = diffs (w0 :: wr ++ [w0 + r.sum]) := by
        rw [cycleEnd_win hT hw] at h
        exact (Option.some.inj h).symm
      have hsum : sums 0 e = (w0 :: wr ++ [w0 + r.sum]).map fun y => y + (0 - w0) := by
        rw [he]
        exact sums_diffs 0 w0 (wr ++ [w0 + r.sum])
      have hpre : pre 0 e = (w0 :: wr).map fun y => y + (0 - w0) := by
        rw [← take_pre, hsum, List.map_append]
        have hl : e.length = ((w0 :: wr).map fun y => y + (0 - w0)).length := by
          rw [he, diffs_len, List.length_append, List.length_map]
          rfl
        rw [hl, List.take_append_of_le_length (Nat.le_refl _), List.take_of_length_le (Nat.le_refl _)]
      have win : IsWin e.sum (pre 0 e) (w0 + (0 - w0)) (wr.map fun y => y + (0 - w0)) := by
        have e0 : (w0 + (0 - w0)) :: (wr.map fun y => y + (0 - w0)) = pre 0 e := hpre.symm
        refine ⟨by rw [e0], ?_, ?_, by rw [e0], by rw [e0]⟩
        · rw [e0, hpre, List.pairwise_map]
          exact hw.asc.imp fun {x y} h => by omega
        · rw [e0, hpre]
          intro x hx
          obtain ⟨y, hy, rfl⟩ := List.mem_map.mp hx
          have := hw.top y hy
          omega
      rw [cycleEnd_win hT2 win]
      congr 1
      have e1 : (w0 + (0 - w0)) :: (wr.map fun y => y + (0 - w0)) ++ [w0 + (0 - w0) + e.sum] = (w0 :: wr ++ [w0 + r.sum]).map fun y => y + (0 - w0) := by
        rw [List.map_append, List.map_singleton, hs, show w0 + (0 - w0) + r.sum = w0 + r.sum + (0 - w0) by omega]
        rfl
      rw [e1, diffs_addr, ← he]
  · unfold cycleEnd at h
    rw [if_pos (show r.sum ≤ 0 by omega)] at h
    split at h
    · cases h
    · rename_i hz
      cases h
      refine ⟨?_, ?_⟩
      · rw [cycleSteps_ring, if_pos (by omega), if_neg hz]
      · unfold cycleEnd
        rw [if_pos (show r.sum ≤ 0 by omega), if_neg hz]
theorem cyc_none {r : List Int} : cycleEnd r = none ↔ cycleSteps r = none := by
  rw [cycleSteps_ring]
  unfold cycleEnd
  by_cases hT : r.sum ≤ 0
  · rw [if_pos hT, if_pos hT]
    by_cases ha : (r.any fun n => n != 0) = true
    · rw [if_pos ha, if_pos ha]
      exact ⟨fun _ => rfl, fun _ => rfl⟩
    · rw [if_neg ha, if_neg ha]
      exact ⟨(fun h => nomatch h), (fun h => nomatch h)⟩
  · rw [if_neg hT, if_neg hT]
    exact ⟨(fun h => nomatch h), (fun h => nomatch h)⟩

def wpNumber : WP := fun ds q _ => ds = [.pool] ∧ ∀ r : Int, -(10 ^ 38) ≤ r → r ≤ 10 ^ 38 → q (.int r)
def wpNumbers : WPN := fun ds q _ => ∃ n : Int, ds = [.pool, .int n] ∧ (0 ≤ n ∧ n ≤ 1000) ∧ ∀ ns : List Int, (ns.length : Int) = n → (∀ m ∈ ns, -(10 ^ 38) ≤ m ∧ m ≤ 10 ^ 38) → q (ns.map D.int)
theorem absSum_le {l : List Int} {B : Int} (h : ∀ n ∈ l, -B ≤ n ∧ n ≤ B) : 0 ≤ absSum l ∧ absSum l ≤ (l.length : Int) * B := by
  have h1 := sum_bd (l := l.map fun x => if x < 0 then -x else x) (B := B) fun n hn => by
    obtain ⟨x, hx, rfl⟩ := List.mem_map.mp hn
    have h2 := h x hx
    split <;> omega
  rw [List.length_map] at h1
  refine ⟨?_, h1.2⟩
  have key : ∀ l : List Int, 0 ≤ absSum l := by
    intro l
    induction l with
    | nil => exact Int.le_refl _
    | cons x l ih =>
      have e : absSum (x :: l) = (if x < 0 then -x else x) + absSum l := by
        unfold absSum
        rw [List.map_cons, List.sum_cons]
      rw [e]
      split <;> omega
  exact key l
theorem absSum_app (a b : List Int) : absSum (a ++ b) = absSum a + absSum b := by
  unfold absSum
  rw [List.map_append, List.sum_append]
theorem pathEnd_len (a : List Int) : (pathEnd a).length = a.length := by
  unfold pathEnd diffs
  rw [List.length_map, List.length_zip, List.length_drop, (srt_perm _).length_eq, sums_len]
  omega
theorem ints_of {R : Int → Prop} : ∀ {acc : List D}, (∀ d ∈ acc, ∃ n, d = .int n ∧ R n) → ∃ ns : List Int, acc = ns.map D.int ∧ ∀ n ∈ ns, R n
  | [], _ => ⟨[], rfl, fun _ h => nomatch h⟩
  | d :: acc, h => by
    obtain ⟨n, rfl, hn⟩ := h d List.mem_cons_self
    obtain ⟨ns, rfl, hns⟩ := ints_of (acc := acc) fun e he => h e (List.mem_cons_of_mem _ he)
    exact ⟨n :: ns, rfl, fun m hm => by
      rcases List.mem_cons.mp hm with e | hm
      · rw [e]; exact hn
      · exact hns m hm⟩

def wpRight : WP := fun ds q _ => ∃ ns : List Int, ds = [.pool, iL ns] ∧ (3 ≤ ns.length ∧ ns.length ≤ 100) ∧ (∀ n ∈ ns, -(10 ^ 40) ≤ n ∧ n ≤ 10 ^ 40) ∧ q (.bl true)
theorem e_bound {ns e : List Int} (he : cycleEnd ns = some e) (hl : ns.length ≤ 100) (hb : ∀ n ∈ ns, -(10 ^ 40) ≤ n ∧ n ≤ 10 ^ 40) : ∀ n ∈ e, -(10 ^ 42) ≤ n ∧ n ≤ 10 ^ 42 := by
  intro n hn
  by_cases hT : 0 < ns.sum
  · obtain ⟨f1, f2⟩ := cycleEnd_facts hT he
    have h0 := f1 n hn
    have h1 : n ≤ e.sum := by
      clear he f2
      induction e with
      | nil => exact absurd hn List.not_mem_nil
      | cons x l ih =>
        have hx := f1 x List.mem_cons_self
        have hl : 0 ≤ l.sum := by
          have := fun y hy => f1 y (List.mem_cons_of_mem _ hy)
          clear ih f1 hn
          induction l with
          | nil => exact Int.le_refl _
          | cons y m ih =>
            rw [List.sum_cons]
            have h1 := this y List.mem_cons_self
            have h2 := ih fun z hz => this z (List.mem_cons_of_mem _ hz)
            omega
        rw [List.sum_cons]
        rcases List.mem_cons.mp hn with rfl | hn
        · omega
        · have := ih hn fun y hy => f1 y (List.mem_cons_of_mem _ hy)
          omega
    have h2 := (sum_bd (B := 10 ^ 40) hb).2
    have h3 : (ns.length : Int) * 10 ^ 40 ≤ 100 * 10 ^ 40 := Int.mul_le_mul_of_nonneg_right (by omega) (by decide)
    omega
  · unfold cycleEnd at he
    rw [if_pos (by omega)] at he
    split at he
    · exact absurd he (by simp)
    · rename_i hz
      injection he with he
      subst he
      have := all_zero hz n hn
      omega
theorem rot_cut (l : List Int) (k : Nat) : cut (l.map D.int) (some (k : Int)) none ++ cut (l.map D.int) none (some (k : Int)) = (rot l k).map D.int := by
  rw [cut_map, cut_map, cut_from, cut_to, ← List.map_append]
  rfl
theorem rot_cutlen (l : List Int) (k : Nat) : (cut (l.map D.int) (some (k : Int)) none).length + (cut (l.map D.int) none (some (k : Int))).length = l.length := by
  rw [← List.length_append, rot_cut, List.length_map, rot_len]
theorem rot_mem {l : List Int} {k : Nat} {R : Int → Prop} (h : ∀ n ∈ l, R n) : ∀ n ∈ rot l k, R n := fun n hn => by
  rcases List.mem_append.mp hn with h1 | h1
  · exact h n (List.mem_of_mem_drop h1)
  · exact h n (List.mem_of_mem_take h1)
theorem mul_map (t : Int) (l : List Int) : (l.map fun x => D.int (t * x)) = (mulL t l).map D.int := by
  unfold mulL
  rw [List.map_map]
  rfl
theorem mul_len (t : Int) (l : List Int) : (mulL t l).length = l.length := List.length_map _
theorem diffs_mem {l : List Int} {d : Int} (h : d ∈ diffs l) : ∃ a ∈ l, ∃ b ∈ l, d = b - a := by
  unfold diffs at h
  obtain ⟨p, hp, rfl⟩ := List.mem_map.mp h
  have := List.of_mem_zip (a := p.1) (b := p.2) hp
  exact ⟨p.1, this.1, p.2, List.mem_of_mem_drop this.2, rfl⟩
theorem pe_bound {r : List Int} (hl : r.length ≤ 40) (hb : ∀ n ∈ r, -(10 ^ 38) ≤ n ∧ n ≤ 10 ^ 38) : ∀ n ∈ pathEnd r, -(10 ^ 40) ≤ n ∧ n ≤ 10 ^ 40 := by
  intro n hn
  obtain ⟨a, ha, b, hb2, rfl⟩ := diffs_mem hn
  have h1 := sums_bd (B := 10 ^ 38) (by decide) (c := 0) (C := 0) ⟨by omega, by omega⟩ hb a ((srt_perm _).mem_iff.mp ha)
  have h2 := sums_bd (B := 10 ^ 38) (by decide) (c := 0) (C := 0) ⟨by omega, by omega⟩ hb b ((srt_perm _).mem_iff.mp hb2)
  have h3 : (r.length : Int) * 10 ^ 38 ≤ 40 * 10 ^ 38 := Int.mul_le_mul_of_nonneg_right (by omega) (by decide)
  omega
theorem ring_cut (r : List Int) (z : Int) : cut (r.map D.int) none (some (-1)) ++ [D.int z] = (r.dropLast ++ [z]).map D.int := by
  rw [cut_map, cut_init, List.map_append]
  rfl
theorem ring_len {r : List Int} {z : Int} (h : r.length ≤ 40) : (cut (r.map D.int) none (some (-1))).length + [D.int z].length ≤ 1000000 := by
  rw [cut_map, cut_init, List.length_map, List.length_dropLast]
  simp only [List.length_cons, List.length_nil]
  omega
def Ring (d : D) : Prop := ∃ rg : List Int, d = iL rg ∧ (3 ≤ rg.length ∧ rg.length ≤ 100) ∧ ∀ n ∈ rg, -(10 ^ 40) ≤ n ∧ n ≤ 10 ^ 40
theorem ring_new {r : List Int} {z : Int} (h1 : 3 ≤ r.length) (h2 : r.length ≤ 40) (hb : ∀ n ∈ r, -(10 ^ 38) ≤ n ∧ n ≤ 10 ^ 38) (hz : -(10 ^ 40) ≤ z ∧ z ≤ 10 ^ 40) : Ring (.lst ((r.dropLast ++ [z]).map D.int)) := by
  have hl : (r.dropLast ++ [z]).length = r.length := by
    rw [List.length_append, List.length_dropLast]
    simp only [List.length_cons, List.length_nil]
    omega
  refine ⟨_, rfl, ⟨by omega, by omega⟩, fun n hn => ?_⟩
  rcases List.mem_append.mp hn with h | h
  · have := hb n (List.dropLast_subset _ h)
    omega
  · rw [List.mem_singleton] at h
    rw [h]
    exact hz
theorem dl_sum {r : List Int} (h2 : r.length ≤ 40) (hb : ∀ n ∈ r, -(10 ^ 38) ≤ n ∧ n ≤ 10 ^ 38) : -(40 * 10 ^ 38) ≤ r.dropLast.sum ∧ r.dropLast.sum ≤ 40 * 10 ^ 38 := by
  have h := sum_bd (B := 10 ^ 38) (l := r.dropLast) fun n hn => hb n (List.dropLast_subset _ hn)
  have h3 : (r.dropLast.length : Int) * 10 ^ 38 ≤ 40 * 10 ^ 38 := Int.mul_le_mul_of_nonneg_right (by rw [List.length_dropLast]; omega) (by decide)
  omega
theorem mul_bound {t : Int} {l : List Int} (h0 : 0 ≤ t) (h1 : t ≤ 10 ^ 9) (hb : ∀ n ∈ l, -(10 ^ 40) ≤ n ∧ n ≤ 10 ^ 40) : ∀ n ∈ mulL t l, -(10 ^ 60) ≤ n ∧ n ≤ 10 ^ 60 := by
  intro n hn
  obtain ⟨x, hx, rfl⟩ := List.mem_map.mp hn
  have hx := hb x hx
  have a1 : t * x ≤ t * 10 ^ 40 := Int.mul_le_mul_of_nonneg_left hx.2 h0
  have a2 : t * -(10 ^ 40) ≤ t * x := Int.mul_le_mul_of_nonneg_left hx.1 h0
  have a3 : t * 10 ^ 40 ≤ 10 ^ 9 * 10 ^ 40 := Int.mul_le_mul_of_nonneg_right h1 (by decide)
  rw [Int.mul_neg] at a2
  omega
section
variable {P : Program} {w : World} {K : PySem.W.Frag} {mg : Str → Option Value} {base : Heap}
abbrev s_Lpool : Stmt := topS 16
theorem sc_Lpool : FnScope ["_law_script", "_law_k", "_law_cell", "_law_seed"] ["_law_script", "_law_k"] (defScope s_Lpool) := ⟨rfl, rfl, rfl, by decide +kernel, rfl, by decide +kernel, by decide +kernel⟩
theorem cal_Lpool {f : Addr} {fd : FuncData} (F : Fun K "_law_pool" "_law_pool" s_Lpool f fd) (gF : mg "_law_pool" = some (.ref f)) (bF : Binds K fd ["_law_script", "_law_k"] []) (z_len : mg "len" = none) : Cal P w K mg base "_law_pool" 1 ["_law_script", "_law_k"] (spN K wpPool) := by
  refine Cal.of F gF bF (okN F sc_Lpool (by rintro _ _ _ ⟨_, _, rfl, _⟩; rfl) (fun cdv A outer s H hr => ⟨_, (pss_cons (ps_set (i := 2) sc_Lpool.nd rfl (Or.inl rfl) pe_int)
  (pss_cons (ps_if (pt_cmpR op_lt (pv 1) (pe_callB (kz_len K) (by rfl) z_len (by decide +kernel) (pa_cons (pv 0) pa_nil)) (nomark _)) (pss_one (ps_set (i := 2) sc_Lpool.nd rfl (Or.inl rfl) (pe_ix (kix_list K) (pv 0) (pv 1) (fun _ _ => rfl)))) pss_nil)
  (pss_cons (ps_set (i := 3) sc_Lpool.nd rfl (Or.inl rfl) (pe_op op_mod (pe_op op_mul (pe_op op_add (pe_op op_add (pe_op op_mod (pv 2) pe_int) (pe_op op_mul (pe_op op_mul pe_int (pv 1)) (pv 1))) pe_int) pe_int) pe_int))
  (pss_cons (ps_if (pt_cmpR op_lt (pv 2) (pe_op op_pow pe_int pe_int) (nomark _)) (pss_one (ps_set (i := 2) sc_Lpool.nd rfl (Or.inl rfl) pe_int)) pss_nil)
  (pss_one (ps_ret (pe_lst (pa_cons (pv 2) (pa_cons (pe_op op_add (pe_op op_mod (pe_op op_mul (pv 3) (pv 3)) pe_int) pe_int) pa_nil))))))))), ?_⟩))
  try dsimp only [cxOf]
  intro ds q kx h
  obtain ⟨ns, n, rfl, hn, h⟩ := h
  walk_at "z"
  refine sc_cut (fun Δ => ∃ c : Int, Δ = [.dat (.scr ns), .dat (.int n), .dat (.int c), .un]) ?_ ?_
  · walk_at "z"
    refine ite_d (fun h0 => ?_) (fun h0 => ?_)
    · walk_at "z"
      exact ⟨_, _, rfl, atI_of (j := n.toNat) (by omega) (List.getElem?_eq_getElem (by omega)), ⟨_, rfl⟩⟩
    · walk_at "z"
      exact ⟨_, rfl⟩
  · rintro Δ ⟨c, rfl⟩
    walk_at "z"
    refine sc_cut (fun Δ => ∃ c e : Int, (0 ≤ e ∧ e < 2147483647) ∧ Δ = [.dat (.scr ns), .dat (.int n), .dat (.int c), .dat (.int e)]) ?_ ?_
    · walk_at "z"
      refine ite_d (fun h0 => ?_) (fun h0 => ?_)
      · walk_at "z"
        exact ⟨_, _, ⟨Int.emod_nonneg _ (by decide), Int.emod_lt_of_pos _ (by decide)⟩, rfl⟩
      · walk_at "z"
        exact ⟨_, _, ⟨Int.emod_nonneg _ (by decide), Int.emod_lt_of_pos _ (by decide)⟩, rfl⟩
    · rintro Δ ⟨c, e, he, rfl⟩
      walk_at "z"
      have h1 := Int.emod_nonneg (e * e) (show (2147483587 : Int) ≠ 0 by decide)
      have h2 := Int.emod_lt_of_pos (e * e) (show (0 : Int) < 2147483587 by decide)
      exact h _ _ (by omega) (by omega)
abbrev s_Ltake : Stmt := topS 17
theorem sc_Ltake : FnScope ["_law_pool_here", "_law_sides", "_law_found"] ["_law_pool_here", "_law_sides"] (defScope s_Ltake) := ⟨rfl, rfl, rfl, by decide +kernel, rfl, by decide +kernel, by decide +kernel⟩
theorem cal_Ltake {f : Addr} {fd : FuncData} (F : Fun K "_law_take" "_law_take" s_Ltake f fd) (gF : mg "_law_take" = some (.ref f)) (bF : Binds K fd ["_law_pool_here", "_law_sides"] []) : Cal P w K mg base "_law_take" 1 ["_law_pool_here", "_law_sides"] (spD K wpTake) := by
  refine Cal.of F gF bF (okD F sc_Ltake (by rintro _ _ _ ⟨_, rfl, _⟩; rfl) (fun cdv A outer s H hr => ⟨_, (pss_cons (ps_if (pt_cmpR op_gt (pe_ix (kix_list K) (pv 0) pe_int (fun _ _ => rfl)) pe_int (nomark _)) (pss_cons (ps_set (i := 2) sc_Ltake.nd rfl (Or.inl rfl) (pe_op op_mod (pe_ix (kix_list K) (pv 0) pe_int (fun _ _ => rfl)) (pv 1)))
  (pss_cons (ps_asg (pe_op op_fdivW (pe_ix (kix_list K) (pv 0) pe_int (fun _ _ => rfl)) (pv 1)) (pg_sub (pv 0) pe_int set_list))
  (pss_one (ps_ret (pv 2))))) pss_nil)
  (pss_cons (ps_asg (pe_op op_mod (pe_op op_add (pe_op op_mul (pe_ix (kix_list K) (pv 0) pe_int (fun _ _ => rfl)) pe_int) pe_int) pe_int) (pg_sub (pv 0) pe_int set_list))
  (pss_one (ps_ret (pe_op op_mod (pe_op op_fdivW (pe_op op_mod (pe_op op_mul (pe_ix (kix_list K) (pv 0) pe_int (fun _ _ => rfl)) (pe_ix (kix_list K) (pv 0) pe_int (fun _ _ => rfl))) pe_int) pe_int) (pv 1)))))), ?_⟩))
  try dsimp only [cxOf]
  intro ds q kx h
  obtain ⟨n, rfl, hn, h⟩ := h
  walk_at "z"
  refine sc_seq ?_
  walk_at "z"
  refine ite_d (fun h0 => ?_) (fun h0 => ?_)
  · walk_at "z"
    exact h _ (Int.emod_nonneg _ (by omega)) (Int.emod_lt_of_pos _ hn.1)
  · walk_at "z"
    exact h _ (Int.emod_nonneg _ (by omega)) (Int.emod_lt_of_pos _ hn.1)
abbrev s_is_integer : Stmt := topS 4
theorem sc_is_integer : FnScope ["thing"] ["thing"] (defScope s_is_integer) := ⟨rfl, rfl, rfl, by decide +kernel, rfl, by decide +kernel, by decide +kernel⟩
theorem cal_is_integer {f : Addr} {fd : FuncData} (F : Fun K "is_integer" "is_integer" s_is_integer f fd) (gF : mg "is_integer" = some (.ref f)) (bF : Binds K fd ["thing"] []) (z_bool : mg "bool" = none) (z_int : mg "int" = none) (z_isinstance : mg "isinstance" = none) : Cal P w K mg base "is_integer" 1 ["thing"] (spD K wpIsInt) := by
  refine Cal.of F gF bF (okD F sc_is_integer (by rintro _ _ _ ⟨_, rfl, _⟩; rfl) (fun cdv A outer s H hr => ⟨_, (pss_one (ps_ret (pe_and (pe_callB (k_isi K) (by rfl) z_isinstance (by decide +kernel) (pa_cons (pv 0) (pa_cons (pe_bltn (v := .ty "int") (by rfl) z_int (by decide +kernel) rfl) pa_nil))) (pe_one (pe_not (pe_callB (k_isi K) (by rfl) z_isinstance (by decide +kernel) (pa_cons (pv 0) (pa_cons (pe_bltn (v := .ty "bool") (by rfl) z_bool (by decide +kernel) rfl) pa_nil)))))))), ?_⟩))
  try dsimp only [cxOf]
  intro ds q kx h
  obtain ⟨i, rfl, h⟩ := h
  walk_at "z"
  exact h
abbrev s_check_numbers : Stmt := topS 7
theorem sc_check_numbers : FnScope ["numbers", "least", "number"] ["numbers", "least"] (defScope s_check_numbers) := ⟨rfl, rfl, rfl, by decide +kernel, rfl, by decide +kernel, by decide +kernel⟩
theorem cal_check_numbers {f : Addr} {fd : FuncData} (F : Fun K "check_numbers" "check_numbers" s_check_numbers f fd) (gF : mg "check_numbers" = some (.ref f)) (bF : Binds K fd ["numbers", "least"] []) (c_is_integer : Cal P w K mg base "is_integer" 1 ["thing"] (spD K wpIsInt)) (z_all : mg "all" = none) (z_isinstance : mg "isinstance" = none) (z_len : mg "len" = none) (z_list : mg "list" = none) (g_MOST_NUMBERS : Gv mg "MOST_NUMBERS" (.int 200)) : Cal P w K mg base "check_numbers" 2 ["numbers", "least"] (spD K wpCheck) := by
  refine Cal.of F gF bF (okD F sc_check_numbers (by rintro _ _ _ ⟨_, _, rfl, _⟩; rfl) (fun cdv A outer s H hr => ⟨_, (pss_cons (ps_if (PW.pt (pw_or (pt_not (pt_val (pe_callB (k_isi K) (by rfl) z_isinstance (by decide +kernel) (pa_cons (pv 0) (pa_cons (pe_bltn (v := .ty "list") (by rfl) z_list (by decide +kernel) rfl) pa_nil))))) (pw_or1 (pt_not (pt_chain op_le op_le (pv 1) (pe_callB (kz_len K) (by rfl) z_len (by decide +kernel) (pa_cons (pv 0) pa_nil)) (pe_gC (by rfl) g_MOST_NUMBERS)))))) (pss_one ps_never) pss_nil)
  (pss_one (ps_if (pt_not (pt_val (pe_callB (kr_all K) (by rfl) z_all (by decide +kernel) (pa_cons (pe_lc (own := [("number", 2)]) (by rfl) sc_check_numbers.nd (kpi_list K (pv 0)) (blkOk_by (N := ["numbers", "least", "number"]) (sc := defScope s_check_numbers) (by decide +kernel)) (fun _ _ _ _ _ => (pg_name (i := 2) sc_check_numbers.nd rfl (Or.inl rfl))) (fun _ _ _ _ _ => pts_nil) (fun _ _ _ _ _ => (pe_callC c_is_integer (hr.mono (by decide)) (by rfl) (pa_cons (pv 2) pa_nil)))) pa_nil)))) (pss_one ps_never) pss_nil))), ?_⟩))
  try dsimp only [cxOf]
  intro ds q kx h
  obtain ⟨ns, m, rfl, hn, h⟩ := h
  walk_at "z"
  refine ⟨_, _, _, fun _ => .bl true, rfl, fun x hx => ?_, ?_⟩
  · walk_at "z"
    exact ⟨x, rfl, rfl⟩
  · refine ⟨ns.map fun _ => true, by rw [List.map_map]; rfl, ?_⟩
    have e : (ns.map fun _ => true).all id = true := by simp
    rw [e]
    walk_at "z"
    exact h
abbrev s_sums_of : Stmt := topS 8
theorem sc_sums_of : FnScope ["numbers", "found", "number"] ["numbers"] (defScope s_sums_of) := ⟨rfl, rfl, rfl, by decide +kernel, rfl, by decide +kernel, by decide +kernel⟩
theorem cal_sums_of {f : Addr} {fd : FuncData} (F : Fun K "sums_of" "sums_of" s_sums_of f fd) (gF : mg "sums_of" = some (.ref f)) (bF : Binds K fd ["numbers"] []) : Cal P w K mg base "sums_of" 1 ["numbers"] (spN K wpSums) := by
  refine Cal.of F gF bF (okN F sc_sums_of (by rintro _ _ _ ⟨_, rfl, _⟩; rfl) (fun cdv A outer s H hr => ⟨_, (pss_cons (ps_setO (i := 1) sc_sums_of.nd rfl (Or.inl rfl) (pe_lst (pa_cons pe_int pa_nil)))
  (pss_cons (ps_for PassesOwn.never rfl (kpi_list K (pv 0)) (pg_name (i := 2) sc_sums_of.nd rfl (Or.inl rfl)) (pss_one (ps_expr (pe_bm PySem.F.plainAttrs_list PySem.F.slot_list_append PySem.F.type_list_append mt_append (pv 1) (pa_cons (pe_op op_add (pe_ix (kix_list K) (pv 1) (pe_un un_neg pe_int) (fun _ _ => rfl)) (pv 2)) pa_nil)))))
  (pss_one (ps_ret (pv 1))))), ?_⟩))
  try dsimp only [cxOf]
  intro ds q kx h
  obtain ⟨ns, rfl, hn, h⟩ := h

  walk_at "z"
  refine sc_forL rfl (fun i Δ => ∃ y, Δ = [.dat (iL ns), .own ((sums 0 (ns.take i)).map D.int), y]) ⟨_, rfl⟩ ?_ ?_
  · rintro i d Δ hd ⟨y, rfl⟩
    obtain ⟨n, rfl, hx⟩ := get_ints hd
    obtain ⟨j, hj⟩ := sums_last 0 (ns.take i)
    have hl : ((sums 0 (ns.take i)).map D.int).length < 1000000 := by
      rw [List.length_map, sums_len, List.length_take]
      omega
    have ha : atI ((sums 0 (ns.take i)).map D.int) (-1) = some (.int (0 + (ns.take i).sum)) := by
      rw [hj, List.map_append]
      exact atI_last _ _
    walk_at "z"
    refine ⟨-1, _, rfl, ha, ?_⟩
    walk_at "z"
    refine ⟨.dat (.int n), ?_⟩
    rw [take_succ hx, sums_snoc, List.map_append]
    rfl
  · rintro Δ ⟨y, rfl⟩
    walk_at "z"
    show q _
    rw [List.length_map, List.take_length]
    exact h
abbrev s_differences_of : Stmt := topS 9
theorem sc_differences_of : FnScope ["sums", "one", "two"] ["sums"] (defScope s_differences_of) := ⟨rfl, rfl, rfl, by decide +kernel, rfl, by decide +kernel, by decide +kernel⟩
theorem cal_differences_of {f : Addr} {fd : FuncData} (F : Fun K "differences_of" "differences_of" s_differences_of f fd) (gF : mg "differences_of" = some (.ref f)) (bF : Binds K fd ["sums"] []) (z_zip : mg "zip" = none) : Cal P w K mg base "differences_of" 1 ["sums"] (spN K wpDiffs) := by
  refine Cal.of F gF bF (okN F sc_differences_of (by rintro _ _ _ ⟨_, rfl, _⟩; rfl) (fun cdv A outer s H hr => ⟨_, (pss_one (ps_ret (pe_lc (own := [("one", 1), ("two", 2)]) (by rfl) sc_differences_of.nd (kpi_zip K (by rfl) z_zip (pa_cons (pv 0) (pa_cons (pe_slice (ksl_list K) (pv 0) (po_some pe_int) po_none) pa_nil))) (blkOk_by (N := ["sums", "one", "two"]) (sc := defScope s_differences_of) (by decide +kernel)) (fun _ _ _ _ _ => (kpg_tup (n := 2) K (by rfl) (pgs_cons (pg_name (i := 1) sc_differences_of.nd rfl (Or.inl rfl)) (pgs_cons (pg_name (i := 2) sc_differences_of.nd rfl (Or.inl rfl)) pgs_nil)))) (fun _ _ _ _ _ => pts_nil) (fun _ _ _ _ _ => (pe_op op_sub (pv 2) (pv 1)))))), ?_⟩))
  try dsimp only [cxOf]
  intro ds q kx h
  obtain ⟨ns, rfl, hn, h⟩ := h

  walk_at "z"
  have e : cut (ns.map D.int) (some 1) none = (ns.drop 1).map D.int := by
    rw [cut_map]
    exact congrArg _ (cut_from ns 1)
  rw [e, zip_tup]
  refine ⟨_, _, _, fun p => .int (p.2 - p.1), rfl, fun x hx => ?_, ?_⟩
  · walk_at "z"
  · show q _
    have e2 : (ns.zip (ns.drop 1)).map (fun p : Int × Int => D.int (p.2 - p.1)) = (diffs ns).map D.int := by
      unfold diffs
      rw [List.map_map]
      rfl
    rw [e2]
    exact h
abbrev s_path_steps : Stmt := topS 10
theorem sc_path_steps : FnScope ["numbers", "sums", "place", "one", "two"] ["numbers"] (defScope s_path_steps) := ⟨rfl, rfl, rfl, by decide +kernel, rfl, by decide +kernel, by decide +kernel⟩
theorem cal_path_steps {f : Addr} {fd : FuncData} (F : Fun K "path_steps" "path_steps" s_path_steps f fd) (gF : mg "path_steps" = some (.ref f)) (bF : Binds K fd ["numbers"] []) (c_check_numbers : Cal P w K mg base "check_numbers" 2 ["numbers", "least"] (spD K wpCheck)) (c_sums_of : Cal P w K mg base "sums_of" 1 ["numbers"] (spN K wpSums)) (z_enumerate : mg "enumerate" = none) (z_len : mg "len" = none) (z_sum : mg "sum" = none) : Cal P w K mg base "path_steps" 3 ["numbers"] (spD K wpPathSteps) := by
  refine Cal.of F gF bF (okD F sc_path_steps (by rintro _ _ _ ⟨_, rfl, _⟩; rfl) (fun cdv A outer s H hr => ⟨_, (pss_cons (ps_expr (pe_callC c_check_numbers (hr.mono (by decide)) (by rfl) (pa_cons (pv 0) (pa_cons pe_int pa_nil))))
  (pss_cons (ps_set (i := 1) sc_path_steps.nd rfl (Or.inr rfl) (pe_callC c_sums_of (hr.mono (by decide)) (by rfl) (pa_cons (pv 0) pa_nil)))
  (pss_one (ps_ret (pe_callB (kr_sum K) (by rfl) z_sum (by decide +kernel) (pa_cons (pe_lc (own := [("place", 2), ("one", 3)]) (by rfl) sc_path_steps.nd (kpi_enum K (by rfl) z_enumerate (pa_cons (pv 1) pa_nil)) (blkOk_by (N := ["numbers", "sums", "place", "one", "two"]) (sc := defScope s_path_steps) (by decide +kernel)) (fun _ _ _ _ _ => (kpg_tup (n := 2) K (by rfl) (pgs_cons (pg_name (i := 2) sc_path_steps.nd rfl (Or.inl rfl)) (pgs_cons (pg_name (i := 3) sc_path_steps.nd rfl (Or.inr rfl)) pgs_nil)))) (fun _ _ _ _ _ => pts_nil) (fun _ _ _ _ _ => (pe_callB (kz_len K) (by rfl) z_len (by decide +kernel) (pa_cons (pe_lc (own := [("two", 4)]) (by rfl) sc_path_steps.nd (kpi_list K (pe_slice (ksl_list K) (pv 1) (po_some (pv 2)) po_none)) (blkOk_by (by kernel_rfl)) (fun _ _ _ _ _ => (pg_name (i := 4) sc_path_steps.nd rfl (Or.inl rfl))) (fun _ _ _ _ _ => (pts_one (pt_cmpR op_lt (pv 4) (pv 3) (nomark _)))) (fun _ _ _ _ _ => (pv 4))) pa_nil)))) pa_nil)))))), ?_⟩))
  try dsimp only [cxOf]
  intro ds q kx h
  obtain ⟨ns, rfl, hn, h⟩ := h

  walk_at "z"
  refine ⟨ns, 1, rfl, ⟨by omega, hn.2⟩, ?_⟩
  walk_at "z"
  refine ⟨ns, rfl, by omega, ?_⟩
  have hl : (sums 0 ns).length ≤ 201 := by
    rw [sums_len]
    omega
  walk_at "z"
  rw [enum_tup]
  refine ⟨_, _, _, fun p => .int (((((sums 0 ns).drop p.2).filter fun t => decide (t < p.1)).length : Nat) : Int), rfl, fun x hx => ?_, ?_⟩
  · walk_at "z"
    rw [cut_map, cut_from]
    refine ⟨?_, _, _, _, fun t => decide (t < x.1), fun t => .int t, rfl, fun t ht => ?_, ?_⟩
    · rw [List.length_map, List.length_drop]
      omega
    · walk_at "z"
      intro _
      walk_at "z"
    · rw [List.length_map]
  · refine ⟨invs (sums 0 ns), ?_, h⟩
    unfold invs
    rw [List.map_map]
    rfl
abbrev s_path_end : Stmt := topS 11
theorem sc_path_end : FnScope ["numbers"] ["numbers"] (defScope s_path_end) := ⟨rfl, rfl, rfl, by decide +kernel, rfl, by decide +kernel, by decide +kernel⟩
theorem cal_path_end {f : Addr} {fd : FuncData} (F : Fun K "path_end" "path_end" s_path_end f fd) (gF : mg "path_end" = some (.ref f)) (bF : Binds K fd ["numbers"] []) (c_check_numbers : Cal P w K mg base "check_numbers" 2 ["numbers", "least"] (spD K wpCheck)) (c_differences_of : Cal P w K mg base "differences_of" 1 ["sums"] (spN K wpDiffs)) (c_sums_of : Cal P w K mg base "sums_of" 1 ["numbers"] (spN K wpSums)) (z_sorted : mg "sorted" = none) : Cal P w K mg base "path_end" 3 ["numbers"] (spN K wpPathEnd) := by
  refine Cal.of F gF bF (okN F sc_path_end (by rintro _ _ _ ⟨_, rfl, _⟩; rfl) (fun cdv A outer s H hr => ⟨_, (pss_cons (ps_expr (pe_callC c_check_numbers (hr.mono (by decide)) (by rfl) (pa_cons (pv 0) (pa_cons pe_int pa_nil))))
  (pss_one (ps_ret (pe_callC c_differences_of (hr.mono (by decide)) (by rfl) (pa_cons (pe_callB (kr_sortedI K) (by rfl) z_sorted (by decide +kernel) (pa_cons (pe_callC c_sums_of (hr.mono (by decide)) (by rfl) (pa_cons (pv 0) pa_nil)) pa_nil)) pa_nil))))), ?_⟩))
  try dsimp only [cxOf]
  intro ds q kx h
  obtain ⟨ns, rfl, hn, h⟩ := h

  walk_at "z"
  refine ⟨ns, 1, rfl, ⟨by omega, hn.2⟩, ?_⟩
  walk_at "z"
  refine ⟨ns, rfl, by omega, sums 0 ns, rfl, fun ns' hp hs => ?_⟩
  walk_at "z"
  have e := srt_eq hp hs
  subst e
  refine ⟨srt (sums 0 ns), rfl, ?_, h⟩
  rw [(srt_perm _).length_eq, sums_len]
  omega
abbrev s_arc_sums : Stmt := topS 12
theorem sc_arc_sums : FnScope ["numbers", "found", "start", "total", "place"] ["numbers"] (defScope s_arc_sums) := ⟨rfl, rfl, rfl, by decide +kernel, rfl, by decide +kernel, by decide +kernel⟩
theorem cal_arc_sums {f : Addr} {fd : FuncData} (F : Fun K "arc_sums" "arc_sums" s_arc_sums f fd) (gF : mg "arc_sums" = some (.ref f)) (bF : Binds K fd ["numbers"] []) (z_len : mg "len" = none) (z_range : mg "range" = none) : Cal P w K mg base "arc_sums" 1 ["numbers"] (spN K wpArcs) := by
  refine Cal.of F gF bF (okN F sc_arc_sums (by rintro _ _ _ ⟨_, rfl, _⟩; rfl) (fun cdv A outer s H hr => ⟨_, (pss_cons (ps_setO (i := 1) sc_arc_sums.nd rfl (Or.inl rfl) (pe_lst pa_nil))
  (pss_cons (ps_for PassesOwn.never rfl (pi_range1 (by rfl) z_range (pa_cons (pe_callB (kz_len K) (by rfl) z_len (by decide +kernel) (pa_cons (pv 0) pa_nil)) pa_nil)) (pg_name (i := 2) sc_arc_sums.nd rfl (Or.inl rfl)) (pss_cons (ps_set (i := 3) sc_arc_sums.nd rfl (Or.inl rfl) pe_int)
  (pss_one (ps_for PassesOwn.never rfl (pi_range1 (by rfl) z_range (pa_cons (pe_op op_sub (pe_callB (kz_len K) (by rfl) z_len (by decide +kernel) (pa_cons (pv 0) pa_nil)) pe_int) pa_nil)) (pg_name (i := 4) sc_arc_sums.nd rfl (Or.inl rfl)) (pss_cons (ps_aug (i := 3) sc_arc_sums.nd rfl (Or.inl rfl) (pe_ix (kix_list K) (pv 0) (pe_op op_mod (pe_op op_add (pv 2) (pv 4)) (pe_callB (kz_len K) (by rfl) z_len (by decide +kernel) (pa_cons (pv 0) pa_nil))) (fun _ _ => rfl)) ip_add)
  (pss_one (ps_expr (pe_bm PySem.F.plainAttrs_list PySem.F.slot_list_append PySem.F.type_list_append mt_append (pv 1) (pa_cons (pv 3) pa_nil)))))))))
  (pss_one (ps_ret (pv 1))))), ?_⟩))
  try dsimp only [cxOf]
  intro ds q kx h
  obtain ⟨ns, rfl, hn, h⟩ := h

  have hl0 : ((ns.map D.int).length : Int) = ns.length := by rw [List.length_map]
  walk_at "z"
  refine sc_forR (n := ns.length) (by omega) (fun i Δ => ∃ y1 y2 y3, Δ = [.dat (iL ns), .own (((List.range i).flatMap fun s => (List.range (ns.length - 1)).map fun p => arcN ns s (p + 1)).map D.int), y1, y2, y3]) ⟨_, _, _, rfl⟩ ?_ ?_ ?_ (by omega)
  · rintro i Δ hi ⟨y1, y2, y3, rfl⟩
    walk_at "z"
    refine sc_forR (n := (ns.length : Int) - 1) (by omega) (fun p Δ => ∃ y3, Δ = [.dat (iL ns), .own (((List.range i).flatMap fun s => (List.range (ns.length - 1)).map fun p => arcN ns s (p + 1)).map D.int ++ ((List.range p).map fun p => arcN ns i (p + 1)).map D.int), .dat (.int (i : Int)), .dat (.int (arcN ns i p)), y3]) ⟨y3, ?_⟩ ?_ ?_ ?_ (by omega)
    · rw [List.range_zero, List.map_nil, List.map_nil, List.append_nil]
      rfl
    · rintro p Δ hp ⟨y3, rfl⟩
      have hz : ((i : Int) + (p : Int)) % ((ns.map D.int).length : Int) = (((i + p) % ns.length : Nat) : Int) := by rw [hl0, Int.natCast_emod, Int.natCast_add]
      have hlt : (i + p) % ns.length < ns.length := Nat.mod_lt _ (by omega)
      have hlen : (((List.range i).flatMap fun s => (List.range (ns.length - 1)).map fun p => arcN ns s (p + 1)).map D.int ++ ((List.range p).map fun p => arcN ns i (p + 1)).map D.int).length < 1000000 := by
        rw [List.length_append, List.length_map, List.length_map, List.length_map, List.length_range, flat_len]
        have h1 : i * (ns.length - 1) ≤ 200 * 200 := Nat.mul_le_mul (by omega) (by omega)
        omega
      walk_at "z"
      refine ⟨_, .int (ns.getD ((i + p) % ns.length) 0), rfl, ?_, ?_⟩
      · rw [hz]
        refine atI_nat ?_
        rw [List.getElem?_map, List.getD_eq_getElem?_getD, List.getElem?_eq_getElem hlt]
        rfl
      · walk_at "z"
        refine ⟨.dat (.int p), ?_⟩
        rw [List.range_succ, List.map_append, List.map_append, ← List.append_assoc, List.map_singleton, List.map_singleton, arcN_succ]
        rfl
    · rintro Δ ⟨y3, rfl⟩
      refine ⟨.dat (.int (i : Int)), .dat (.int (arcN ns i ((ns.length : Int) - 1).toNat)), y3, ?_⟩
      have e : ((ns.length : Int) - 1).toNat = ns.length - 1 := by omega
      rw [e, List.range_succ, List.flatMap_append, List.map_append, List.flatMap_singleton]
    · intro kl hk
      walk_at "z"
      rw [hl0]
      exact hk
  · rintro Δ ⟨y1, y2, y3, rfl⟩
    walk_at "z"
    show q _
    rw [Int.toNat_natCast]
    exact h
  · intro kl hk
    walk_at "z"
    rw [hl0]
    exact hk
abbrev s_cycle_steps : Stmt := topS 13
theorem sc_cycle_steps : FnScope ["numbers", "total", "arc"] ["numbers"] (defScope s_cycle_steps) := ⟨rfl, rfl, rfl, by decide +kernel, rfl, by decide +kernel, by decide +kernel⟩
theorem cal_cycle_steps {f : Addr} {fd : FuncData} (F : Fun K "cycle_steps" "cycle_steps" s_cycle_steps f fd) (gF : mg "cycle_steps" = some (.ref f)) (bF : Binds K fd ["numbers"] []) (c_arc_sums : Cal P w K mg base "arc_sums" 1 ["numbers"] (spN K wpArcs)) (c_check_numbers : Cal P w K mg base "check_numbers" 2 ["numbers", "least"] (spD K wpCheck)) (z_any : mg "any" = none) (z_sum : mg "sum" = none) : Cal P w K mg base "cycle_steps" 3 ["numbers"] (spD K wpCycleSteps) := by
  refine Cal.of F gF bF (okD F sc_cycle_steps (by rintro _ _ _ ⟨_, rfl, _⟩; rfl) (fun cdv A outer s H hr => ⟨_, (pss_cons (ps_expr (pe_callC c_check_numbers (hr.mono (by decide)) (by rfl) (pa_cons (pv 0) (pa_cons pe_int pa_nil))))
  (pss_cons (ps_set (i := 1) sc_cycle_steps.nd rfl (Or.inr rfl) (pe_callB (kr_sum K) (by rfl) z_sum (by decide +kernel) (pa_cons (pv 0) pa_nil)))
  (pss_cons (ps_if (pt_cmpR op_le (pv 1) pe_int (nomark _)) (pss_one (ps_ret (pe_ifExp (pt_not (pt_val (pe_callB (kz_anyI K) (by rfl) z_any (by decide +kernel) (pa_cons (pv 0) pa_nil)))) pe_int pe_non))) pss_nil)
  (pss_one (ps_ret (pe_callB (kr_sum K) (by rfl) z_sum (by decide +kernel) (pa_cons (pe_lc (own := [("arc", 2)]) (by rfl) sc_cycle_steps.nd (kpi_list K (pe_callC c_arc_sums (hr.mono (by decide)) (by rfl) (pa_cons (pv 0) pa_nil))) (blkOk_by (N := ["numbers", "total", "arc"]) (sc := defScope s_cycle_steps) (by decide +kernel)) (fun _ _ _ _ _ => (pg_name (i := 2) sc_cycle_steps.nd rfl (Or.inl rfl))) (fun _ _ _ _ _ => (pts_one (pt_cmpR op_lt (pv 2) pe_int (nomark _)))) (fun _ _ _ _ _ => (pe_op op_fdivW (pe_op op_sub (pe_op op_sub (pv 1) pe_int) (pv 2)) (pv 1)))) pa_nil))))))), ?_⟩))
  try dsimp only [cxOf]
  intro ds q kx h
  obtain ⟨ns, rfl, hn, hb, h⟩ := h
  have hs : ns.sum < 10 ^ 100 := by
    have h1 := (sum_bd hb).2
    have h2 : (ns.length : Int) * 10 ^ 60 ≤ 200 * 10 ^ 60 := Int.mul_le_mul_of_nonneg_right (by omega) (by decide)
    omega
  walk_at "z"
  refine ⟨ns, 3, rfl, ⟨by omega, hn.2⟩, ?_⟩
  walk_at "z"
  refine ite_d (fun h0 => ?_) (fun h0 => ?_)
  · walk_at "z"
    unfold cycleSteps at h
    rw [if_pos h0] at h
    refine ite_of (fun h1 => ?_) (fun h1 => ?_)
    · walk_at "z"
      rw [Bool.not_eq_true'] at h1
      rw [h1] at h
      exact h
    · walk_at "z"
      rw [Bool.not_eq_false'] at h1
      rw [h1] at h
      exact h
  · walk_at "z"
    refine ⟨ns, rfl, by omega, ?_⟩
    walk_at "z"
    unfold cycleSteps at h
    rw [if_neg h0] at h
    refine ⟨?_, _, _, _, fun a => decide (a < 0), fun a => .int ((ns.sum - 1 - a) / ns.sum), rfl, fun a ha => ?_, ?_⟩
    · rw [List.length_map, arcs_len]
      have h1 : ns.length * (ns.length - 1) ≤ 200 * 200 := Nat.mul_le_mul (by omega) (by omega)
      omega
    · walk_at "z"
      intro _
      walk_at "z"
    · exact ⟨((arcs ns).filter fun a => decide (a < 0)).map fun a => (ns.sum - 1 - a) / ns.sum, by rw [List.map_map]; rfl, h⟩
abbrev s_cycle_end : Stmt := topS 14
theorem sc_cycle_end : FnScope ["numbers", "count", "total", "sums", "rests", "shift", "turns", "place", "window", "rest", "one"] ["numbers"] (defScope s_cycle_end) := ⟨rfl, rfl, rfl, by decide +kernel, rfl, by decide +kernel, by decide +kernel⟩
theorem cal_cycle_end {f : Addr} {fd : FuncData} (F : Fun K "cycle_end" "cycle_end" s_cycle_end f fd) (gF : mg "cycle_end" = some (.ref f)) (bF : Binds K fd ["numbers"] []) (c_check_numbers : Cal P w K mg base "check_numbers" 2 ["numbers", "least"] (spD K wpCheck)) (c_differences_of : Cal P w K mg base "differences_of" 1 ["sums"] (spN K wpDiffs)) (c_sums_of : Cal P w K mg base "sums_of" 1 ["numbers"] (spN K wpSums)) (z_any : mg "any" = none) (z_len : mg "len" = none) (z_list : mg "list" = none) (z_sorted : mg "sorted" = none) (z_sum : mg "sum" = none) : Cal P w K mg base "cycle_end" 3 ["numbers"] (spD K wpCycleEnd) := by
  refine Cal.of F gF bF (okD F sc_cycle_end (by rintro _ _ _ ⟨_, rfl, _⟩; rfl) (fun cdv A outer s H hr => ⟨_, (pss_cons (ps_expr (pe_callC c_check_numbers (hr.mono (by decide)) (by rfl) (pa_cons (pv 0) (pa_cons pe_int pa_nil))))
  (pss_cons (ps_asg (pe_tup (pa_cons (pe_callB (kz_len K) (by rfl) z_len (by decide +kernel) (pa_cons (pv 0) pa_nil)) (pa_cons (pe_callB (kr_sum K) (by rfl) z_sum (by decide +kernel) (pa_cons (pv 0) pa_nil)) pa_nil))) (kpg_tup (n := 2) K (by rfl) (pgs_cons (pg_name (i := 1) sc_cycle_end.nd rfl (Or.inl rfl)) (pgs_cons (pg_name (i := 2) sc_cycle_end.nd rfl (Or.inr rfl)) pgs_nil))))
  (pss_cons (ps_if (pt_cmpR op_le (pv 2) pe_int (nomark _)) (pss_one (ps_ret (pe_ifExp (pt_not (pt_val (pe_callB (kz_anyI K) (by rfl) z_any (by decide +kernel) (pa_cons (pv 0) pa_nil)))) (pe_callTy (kz_list K) (by rfl) z_list (by decide +kernel) (pa_cons (pv 0) pa_nil)) pe_non))) pss_nil)
  (pss_cons (ps_set (i := 3) sc_cycle_end.nd rfl (Or.inl rfl) (pe_slice (ksl_list K) (pe_callC c_sums_of (hr.mono (by decide)) (by rfl) (pa_cons (pv 0) pa_nil)) po_none (po_some (pv 1))))
  (pss_cons (ps_set (i := 4) sc_cycle_end.nd rfl (Or.inl rfl) (pe_callB (kr_sortedI K) (by rfl) z_sorted (by decide +kernel) (pa_cons (pe_lc (own := [("one", 10)]) (by rfl) sc_cycle_end.nd (kpi_list K (pv 3)) (blkOk_by (N := ["numbers", "count", "total", "sums", "rests", "shift", "turns", "place", "window", "rest", "one"]) (sc := defScope s_cycle_end) (by decide +kernel)) (fun _ _ _ _ _ => (pg_name (i := 10) sc_cycle_end.nd rfl (Or.inl rfl))) (fun _ _ _ _ _ => pts_nil) (fun _ _ _ _ _ => (pe_op op_mod (pv 10) (pv 2)))) pa_nil)))
  (pss_cons (ps_set (i := 5) sc_cycle_end.nd rfl (Or.inl rfl) (pe_op op_fdivW (pe_op op_sub (pe_callB (kr_sum K) (by rfl) z_sum (by decide +kernel) (pa_cons (pv 3) pa_nil)) (pe_callB (kr_sum K) (by rfl) z_sum (by decide +kernel) (pa_cons (pv 4) pa_nil))) (pv 2)))
  (pss_cons (ps_asg (pe_tup (pa_cons (pe_op op_fdivW (pv 5) (pv 1)) (pa_cons (pe_op op_mod (pv 5) (pv 1)) pa_nil))) (kpg_tup (n := 2) K (by rfl) (pgs_cons (pg_name (i := 6) sc_cycle_end.nd rfl (Or.inr rfl)) (pgs_cons (pg_name (i := 7) sc_cycle_end.nd rfl (Or.inl rfl)) pgs_nil))))
  (pss_cons (ps_setLc (i := 8) (own := [("rest", 9)]) (by rfl) sc_cycle_end.nd rfl rfl (sw_true rfl rfl rfl (by decide +kernel)) (kpi_list K (pe_slice (ksl_list K) (pv 4) po_none (po_some (pv 7)))) (blkOk_by (N := ["numbers", "count", "total", "sums", "rests", "shift", "turns", "place", "window", "rest", "one"]) (sc := defScope s_cycle_end) (by decide +kernel)) (fun _ _ _ _ _ => (pg_name (i := 9) sc_cycle_end.nd rfl (Or.inl rfl))) (fun _ _ _ _ _ => pts_nil) (fun _ _ _ _ _ => (pe_op op_add (pv 9) (pe_op op_mulW (pe_op op_add (pv 6) pe_int) (pv 2)))))
  (pss_cons (ps_set (i := 8) sc_cycle_end.nd rfl (Or.inl rfl) (pe_op op_cat (pe_lc (own := [("rest", 9)]) (by rfl) sc_cycle_end.nd (kpi_list K (pe_slice (ksl_list K) (pv 4) (po_some (pv 7)) po_none)) (blkOk_by (N := ["numbers", "count", "total", "sums", "rests", "shift", "turns", "place", "window", "rest", "one"]) (sc := defScope s_cycle_end) (by decide +kernel)) (fun _ _ _ _ _ => (pg_name (i := 9) sc_cycle_end.nd rfl (Or.inl rfl))) (fun _ _ _ _ _ => pts_nil) (fun _ _ _ _ _ => (pe_op op_add (pv 9) (pe_op op_mulW (pv 6) (pv 2))))) (pv 8)))
  (pss_one (ps_ret (pe_callC c_differences_of (hr.mono (by decide)) (by rfl) (pa_cons (pe_op op_cat (pv 8) (pe_lst (pa_cons (pe_op op_add (pe_ix (kix_list K) (pv 8) pe_int (fun _ _ => rfl)) (pv 2)) pa_nil))) pa_nil))))))))))))), ?_⟩))
  try dsimp only [cxOf]
  intro ds q kx h
  obtain ⟨ns, rfl, hn, hb, h⟩ := h
  have hs : ns.sum < 10 ^ 100 := by
    have h1 := (sum_bd hb).2
    have h2 : (ns.length : Int) * 10 ^ 60 ≤ 200 * 10 ^ 60 := Int.mul_le_mul_of_nonneg_right (by omega) (by decide)
    omega
  walk_at "z"
  refine ⟨ns, 3, rfl, ⟨by omega, hn.2⟩, ?_⟩
  walk_at "z"
  refine ite_d (fun h0 => ?_) (fun h0 => ?_)
  · walk_at "z"
    unfold cycleEnd at h
    rw [if_pos h0] at h
    refine ite_of (fun h1 => ?_) (fun h1 => ?_)
    · walk_at "z"
      rw [Bool.not_eq_true'] at h1
      rw [h1] at h
      exact h
    · walk_at "z"
      rw [Bool.not_eq_false'] at h1
      rw [h1] at h
      exact h
  · have hl0 : ((ns.map D.int).length : Int) = ns.length := by rw [List.length_map]
    walk_at "z"
    refine ⟨ns, rfl, by omega, ?_⟩
    have hc : cut ((sums 0 ns).map D.int) none (some ((ns.map D.int).length : Int)) = ((sums 0 ns).take ns.length).map D.int := by rw [hl0, cut_map, cut_to]
    have hsl : ((sums 0 ns).take ns.length).length = ns.length := by
      rw [List.length_take, sums_len]
      omega
    have hsb : ∀ x ∈ (sums 0 ns).take ns.length, -(200 * 10 ^ 60) ≤ x ∧ x ≤ 200 * 10 ^ 60 := fun x hx => by
      have h1 := sums_bd (B := 10 ^ 60) (by decide) (c := 0) (C := 0) (by omega) hb x (List.mem_of_mem_take hx)
      have h2 : (ns.length : Int) * 10 ^ 60 ≤ 200 * 10 ^ 60 := Int.mul_le_mul_of_nonneg_right (by omega) (by decide)
      omega
    walk_at "z"
    rw [hc]
    unfold cycleEnd at h
    rw [if_neg h0] at h
    generalize (sums 0 ns).take ns.length = s at h hsl hsb
    generalize hT : ns.sum = T at h h0 hs
    have hTp : 0 < T := by omega
    refine ⟨by rw [List.length_map]; omega, _, _, _, fun x => .int (x % T), rfl, fun x hx => ?_, ?_⟩
    · walk_at "z"
    refine ⟨s.map fun x => x % T, by rw [List.map_map]; rfl, fun rs hp hs2 => ?_⟩
    have e := srt_eq hp hs2
    have hrl : rs.length = ns.length := by rw [hp.length_eq, List.length_map, hsl]
    have hrb : ∀ x ∈ rs, -(200 * 10 ^ 60) ≤ x ∧ x ≤ 200 * 10 ^ 60 := fun x hx => by
      obtain ⟨y, hy, rfl⟩ := List.mem_map.mp (hp.mem_iff.mp hx)
      have h1 := Int.emod_nonneg y (show T ≠ 0 by omega)
      have h2 := Int.emod_lt_of_pos y hTp
      have h3 := (sum_bd hb).2
      have h4 : (ns.length : Int) * 10 ^ 60 ≤ 200 * 10 ^ 60 := Int.mul_le_mul_of_nonneg_right (by omega) (by decide)
      omega
    walk_at "z"
    rw [hl0]
    unfold window at h
    rw [hsl, ← e] at h
    dsimp only at h
    have b1 := sum_bd hsb
    have b2 := sum_bd hrb
    rw [hsl] at b1
    rw [hrl] at b2
    have b3 : (ns.length : Int) * (200 * 10 ^ 60) ≤ 200 * (200 * 10 ^ 60) := Int.mul_le_mul_of_nonneg_right (by omega) (by decide)
    have b4 := ediv_bd (x := s.sum - rs.sum) (B := 10 ^ 70) hTp (by decide) (by omega) (by omega)
    generalize (s.sum - rs.sum) / T = shift at h b4
    have b5 := ediv_bd (x := shift) (T := (ns.length : Int)) (B := 10 ^ 70) (by omega) (by decide) b4.1 b4.2
    obtain ⟨pl, hpl⟩ : ∃ pl : Nat, shift % (ns.length : Int) = pl := ⟨(shift % (ns.length : Int)).toNat, (Int.toNat_of_nonneg (Int.emod_nonneg _ (by omega))).symm⟩
    have hplt : (pl : Int) < ns.length := by
      rw [← hpl]
      exact Int.emod_lt_of_pos _ (by omega)
    rw [hpl, cut_map, cut_to]
    rw [hpl, Int.toNat_natCast] at h
    generalize shift / (ns.length : Int) = turns at h b5
    have hTB : T < 10 ^ 100 := hs
    have m1 : CMulW (turns + 1) T := mulW_of (by omega) (by omega)
    have m2 : CMulW turns T := mulW_of (by omega) (by omega)
    refine ⟨by rw [List.length_map, List.length_take]; omega, _, _, _, fun r => .int (r + (turns + 1) * T), rfl, fun x hx => ?_, ?_⟩
    · walk_at "z"
    walk_at "z"
    rw [cut_map, cut_from]
    refine ⟨by rw [List.length_map, List.length_drop]; omega, _, _, _, fun r => .int (r + turns * T), rfl, fun x hx => ?_, ?_⟩
    · walk_at "z"
    walk_at "z"
    refine ⟨by rw [List.length_map, List.length_map, List.length_drop, List.length_take]; omega, ?_⟩
    have hw : (rs.drop pl).map (fun r => D.int (r + turns * T)) ++ (rs.take pl).map (fun r => D.int (r + (turns + 1) * T)) = ((rs.drop pl).map (fun r => r + turns * T) ++ (rs.take pl).map (fun r => r + (turns + 1) * T)).map D.int := by
      rw [List.map_append, List.map_map, List.map_map]
      rfl
    have hwl : ((rs.drop pl).map (fun r => r + turns * T) ++ (rs.take pl).map (fun r => r + (turns + 1) * T)).length = ns.length := by
      rw [List.length_append, List.length_map, List.length_map, List.length_drop, List.length_take]
      omega
    rw [hw]
    generalize (rs.drop pl).map (fun r => r + turns * T) ++ (rs.take pl).map (fun r => r + (turns + 1) * T) = w at h hwl
    obtain ⟨w0, wr, rfl⟩ : ∃ w0 wr, w = w0 :: wr := by
      cases w with
      | nil =>
        rw [List.length_nil] at hwl
        omega
      | cons x r => exact ⟨x, r, rfl⟩
    walk_at "z"
    refine ⟨_, .int w0, rfl, atI_of (j := 0) rfl rfl, ?_⟩
    walk_at "z"
    refine ⟨by rw [List.length_map, hwl]; simp only [List.length_cons, List.length_nil]; omega, ?_⟩
    walk_at "z"
    refine ⟨w0 :: wr ++ [w0 + T], by unfold iL; rw [List.map_append]; rfl, ?_, h⟩
    rw [List.length_append, hwl, List.length_singleton]
    omega
abbrev s_Lnumber : Stmt := topS 18
theorem sc_Lnumber : FnScope ["_law_pool_here", "_law_far"] ["_law_pool_here"] (defScope s_Lnumber) := ⟨rfl, rfl, rfl, by decide +kernel, rfl, by decide +kernel, by decide +kernel⟩
theorem cal_Lnumber {f : Addr} {fd : FuncData} (F : Fun K "_law_number" "_law_number" s_Lnumber f fd) (gF : mg "_law_number" = some (.ref f)) (bF : Binds K fd ["_law_pool_here"] []) (c_Ltake : Cal P w K mg base "_law_take" 1 ["_law_pool_here", "_law_sides"] (spD K wpTake)) : Cal P w K mg base "_law_number" 2 ["_law_pool_here"] (spD K wpNumber) := by
  refine Cal.of F gF bF (okD F sc_Lnumber (by rintro _ _ _ ⟨rfl, _⟩; rfl) (fun cdv A outer s H hr => ⟨_, (pss_cons (ps_set (i := 1) sc_Lnumber.nd rfl (Or.inl rfl) (pe_op op_sub (pe_callC c_Ltake (hr.mono (by decide)) (by rfl) (pa_cons (pv 0) (pa_cons (pe_op op_pow pe_int pe_int) pa_nil))) (pe_op op_mul pe_int (pe_op op_pow pe_int pe_int))))
  (pss_one (ps_ret (pe_ix (kix_list K) (pe_lst (pa_cons (pe_op op_sub (pe_callC c_Ltake (hr.mono (by decide)) (by rfl) (pa_cons (pv 0) (pa_cons pe_int pa_nil))) pe_int) (pa_cons (pe_op op_sub (pe_callC c_Ltake (hr.mono (by decide)) (by rfl) (pa_cons (pv 0) (pa_cons pe_int pa_nil))) pe_int) (pa_cons pe_int (pa_cons (pv 1) (pa_cons (pe_op op_mul (pv 1) (pe_op op_pow pe_int pe_int)) pa_nil)))))) (pe_callC c_Ltake (hr.mono (by decide)) (by rfl) (pa_cons (pv 0) (pa_cons pe_int pa_nil))) (fun _ _ => rfl))))), ?_⟩))
  try dsimp only [cxOf]
  intro ds q kx h
  obtain ⟨rfl, h⟩ := h
  walk_at "z"
  rename_i x x0 x1 y y0 y1 z z0 z1 r r0 r1
  have hr : r = 0 ∨ r = 1 ∨ r = 2 ∨ r = 3 ∨ r = 4 := by omega
  rcases hr with rfl | rfl | rfl | rfl | rfl
  · exact ⟨_, _, rfl, atI_of (j := 0) rfl rfl, h _ (by omega) (by omega)⟩
  · exact ⟨_, _, rfl, atI_of (j := 1) rfl rfl, h _ (by omega) (by omega)⟩
  · exact ⟨_, _, rfl, atI_of (j := 2) rfl rfl, h _ (by omega) (by omega)⟩
  · exact ⟨_, _, rfl, atI_of (j := 3) rfl rfl, h _ (by omega) (by omega)⟩
  · exact ⟨_, _, rfl, atI_of (j := 4) rfl rfl, h _ (by omega) (by omega)⟩
abbrev s_Lnumbers : Stmt := topS 19
theorem sc_Lnumbers : FnScope ["_law_pool_here", "_law_many", "_law_node"] ["_law_pool_here", "_law_many"] (defScope s_Lnumbers) := ⟨rfl, rfl, rfl, by decide +kernel, rfl, by decide +kernel, by decide +kernel⟩
theorem cal_Lnumbers {f : Addr} {fd : FuncData} (F : Fun K "_law_numbers" "_law_numbers" s_Lnumbers f fd) (gF : mg "_law_numbers" = some (.ref f)) (bF : Binds K fd ["_law_pool_here", "_law_many"] []) (c_Lnumber : Cal P w K mg base "_law_number" 2 ["_law_pool_here"] (spD K wpNumber)) (z_range : mg "range" = none) : Cal P w K mg base "_law_numbers" 3 ["_law_pool_here", "_law_many"] (spN K wpNumbers) := by
  refine Cal.of F gF bF (okN F sc_Lnumbers (by rintro _ _ _ ⟨_, rfl, _⟩; rfl) (fun cdv A outer s H hr => ⟨_, (pss_one (ps_ret (pe_lc (own := [("_law_node", 2)]) (by rfl) sc_Lnumbers.nd (pi_range1 (by rfl) z_range (pa_cons (pv 1) pa_nil)) (blkOk_by (N := ["_law_pool_here", "_law_many", "_law_node"]) (sc := defScope s_Lnumbers) (by decide +kernel)) (fun _ _ _ _ _ => (pg_name (i := 2) sc_Lnumbers.nd rfl (Or.inl rfl))) (fun _ _ _ _ _ => pts_nil) (fun _ _ _ _ _ => (pe_callC c_Lnumber (hr.mono (by decide)) (by rfl) (pa_cons (pv 0) pa_nil)))))), ?_⟩))
  try dsimp only [cxOf]
  intro ds q kx h
  obtain ⟨n, rfl, hn, h⟩ := h
  refine sc_retNew (en_lcR ?_)
  walk_at "z"
  refine ⟨fun d => ∃ n, d = .int n ∧ (-(10 ^ 38) ≤ n ∧ n ≤ 10 ^ 38), fun d hd => ?_, fun acc ha hR => ?_⟩
  · walk_at "z"
    exact ⟨rfl, fun r h0 h1 => ⟨r, rfl, h0, h1⟩⟩
  · obtain ⟨ns, rfl, hns⟩ := ints_of hR
    rw [List.length_map, List.length_map, List.length_range] at ha
    exact h ns (by omega) hns
abbrev s_Lcycle_right : Stmt := topS 20
theorem sc_Lcycle_right : FnScope ["_law_pool_here", "_law_row", "_law_count", "_law_end", "_law_at", "_law_times", "_law_moved", "_law_due", "_law_great", "_law_number_here"] ["_law_pool_here", "_law_row"] (defScope s_Lcycle_right) := ⟨rfl, rfl, rfl, by decide +kernel, rfl, by decide +kernel, by decide +kernel⟩
theorem cal_Lcycle_right {f : Addr} {fd : FuncData} (F : Fun K "_law_cycle_right" "_law_cycle_right" s_Lcycle_right f fd) (gF : mg "_law_cycle_right" = some (.ref f)) (bF : Binds K fd ["_law_pool_here", "_law_row"] []) (c_Ltake : Cal P w K mg base "_law_take" 1 ["_law_pool_here", "_law_sides"] (spD K wpTake)) (c_cycle_end : Cal P w K mg base "cycle_end" 3 ["numbers"] (spD K wpCycleEnd)) (c_cycle_steps : Cal P w K mg base "cycle_steps" 3 ["numbers"] (spD K wpCycleSteps)) (z_len : mg "len" = none) : Cal P w K mg base "_law_cycle_right" 4 ["_law_pool_here", "_law_row"] (spD K wpRight) := by
  refine Cal.of F gF bF (okD F sc_Lcycle_right (by rintro _ _ _ ⟨_, rfl, _⟩; rfl) (fun cdv A outer s H hr => ⟨_, (pss_cons (ps_par (i := 2) (j := 3) (by rfl) sc_Lcycle_right.nd rfl rfl (by decide) rfl rfl (pa_cons (pe_callC c_cycle_steps (hr.mono (by decide)) (by rfl) (pa_cons (pv 1) pa_nil)) (pa_cons (pe_callC c_cycle_end (hr.mono (by decide)) (by rfl) (pa_cons (pv 1) pa_nil)) pa_nil)) (by rfl))
  (pss_cons (ps_asg (pe_tup (pa_cons (pe_callC c_Ltake (hr.mono (by decide)) (by rfl) (pa_cons (pv 0) (pa_cons (pe_callB (kz_len K) (by rfl) z_len (by decide +kernel) (pa_cons (pv 1) pa_nil)) pa_nil))) (pa_cons (pe_op op_add pe_int (pe_callC c_Ltake (hr.mono (by decide)) (by rfl) (pa_cons (pv 0) (pa_cons (pe_op op_pow pe_int pe_int) pa_nil)))) pa_nil))) (kpg_tup (n := 2) K (by rfl) (pgs_cons (pg_name (i := 4) sc_Lcycle_right.nd rfl (Or.inl rfl)) (pgs_cons (pg_name (i := 5) sc_Lcycle_right.nd rfl (Or.inr rfl)) pgs_nil))))
  (pss_cons (ps_set (i := 6) sc_Lcycle_right.nd rfl (Or.inl rfl) (pe_op op_cat (pe_slice (ksl_list K) (pv 1) (po_some (pv 4)) po_none) (pe_slice (ksl_list K) (pv 1) po_none (po_some (pv 4)))))
  (pss_cons (ps_set (i := 7) sc_Lcycle_right.nd rfl (Or.inl rfl) (pe_ifExp (pt_cmp (pc_isN (pv 3))) pe_non (pe_op op_cat (pe_slice (ksl_list K) (pv 3) (po_some (pv 4)) po_none) (pe_slice (ksl_list K) (pv 3) po_none (po_some (pv 4))))))
  (pss_cons (ps_if (pt_cmpR (kop_neD K hr.units) (pe_lst (pa_cons (pe_callC c_cycle_steps (hr.mono (by decide)) (by rfl) (pa_cons (pv 6) pa_nil)) (pa_cons (pe_callC c_cycle_end (hr.mono (by decide)) (by rfl) (pa_cons (pv 6) pa_nil)) pa_nil))) (pe_lst (pa_cons (pv 2) (pa_cons (pv 7) pa_nil))) (nomark _)) (pss_one (ps_ret pe_bl)) pss_nil)
  (pss_cons (ps_set (i := 7) sc_Lcycle_right.nd rfl (Or.inl rfl) (pe_ifExp (pt_cmp (pc_isN (pv 3))) pe_non (k_revL K (pv 3))))
  (pss_cons (ps_if (pt_cmpR (kop_neD K hr.units) (pe_lst (pa_cons (pe_callC c_cycle_steps (hr.mono (by decide)) (by rfl) (pa_cons (k_revL K (pv 1)) pa_nil)) (pa_cons (pe_callC c_cycle_end (hr.mono (by decide)) (by rfl) (pa_cons (k_revL K (pv 1)) pa_nil)) pa_nil))) (pe_lst (pa_cons (pv 2) (pa_cons (pv 7) pa_nil))) (nomark _)) (pss_one (ps_ret pe_bl)) pss_nil)
  (pss_cons (ps_set (i := 7) sc_Lcycle_right.nd rfl (Or.inl rfl) (pe_ifExp (pt_cmp (pc_isN (pv 3))) pe_non (pe_lc (own := [("_law_number_here", 9)]) (by rfl) sc_Lcycle_right.nd (kpi_list K (pv 3)) (blkOk_by (N := ["_law_pool_here", "_law_row", "_law_count", "_law_end", "_law_at", "_law_times", "_law_moved", "_law_due", "_law_great", "_law_number_here"]) (sc := defScope s_Lcycle_right) (by decide +kernel)) (fun _ _ _ _ _ => (pg_name (i := 9) sc_Lcycle_right.nd rfl (Or.inl rfl))) (fun _ _ _ _ _ => pts_nil) (fun _ _ _ _ _ => (pe_op op_mul (pv 5) (pv 9))))))
  (pss_cons (ps_setLc (i := 8) (own := [("_law_number_here", 9)]) (by rfl) sc_Lcycle_right.nd rfl rfl (sw_true rfl rfl rfl (by decide +kernel)) (kpi_list K (pv 1)) (blkOk_by (N := ["_law_pool_here", "_law_row", "_law_count", "_law_end", "_law_at", "_law_times", "_law_moved", "_law_due", "_law_great", "_law_number_here"]) (sc := defScope s_Lcycle_right) (by decide +kernel)) (fun _ _ _ _ _ => (pg_name (i := 9) sc_Lcycle_right.nd rfl (Or.inl rfl))) (fun _ _ _ _ _ => pts_nil) (fun _ _ _ _ _ => (pe_op op_mul (pv 5) (pv 9))))
  (pss_cons (ps_if (pt_cmpR (kop_neD K hr.units) (pe_lst (pa_cons (pe_callC c_cycle_steps (hr.mono (by decide)) (by rfl) (pa_cons (pv 8) pa_nil)) (pa_cons (pe_callC c_cycle_end (hr.mono (by decide)) (by rfl) (pa_cons (pv 8) pa_nil)) pa_nil))) (pe_lst (pa_cons (pv 2) (pa_cons (pv 7) pa_nil))) (nomark _)) (pss_one (ps_ret pe_bl)) pss_nil)
  (pss_one (ps_ret (pe_or (pe_cmp (pc_isN (pv 3)) rfl) (pe_one (pe_cmpR (kop_eqD K hr.units) (pe_lst (pa_cons (pe_callC c_cycle_steps (hr.mono (by decide)) (by rfl) (pa_cons (pv 3) pa_nil)) (pa_cons (pe_callC c_cycle_end (hr.mono (by decide)) (by rfl) (pa_cons (pv 3) pa_nil)) pa_nil))) (pe_lst (pa_cons pe_int (pa_cons (pv 3) pa_nil))) (nomark _)))))))))))))))), ?_⟩))
  try dsimp only [cxOf]
  intro ds q kx h
  obtain ⟨ns, rfl, hn, hb, h⟩ := h
  have hb6 : ∀ n ∈ ns, -(10 ^ 60) ≤ n ∧ n ≤ 10 ^ 60 := fun n hm => by
    have := hb n hm
    omega
  have hlr : ns.reverse.length = ns.length := List.length_reverse
  have hbr : ∀ n ∈ ns.reverse, -(10 ^ 60) ≤ n ∧ n ≤ 10 ^ 60 := fun n hm => hb6 n (List.mem_reverse.mp hm)
  cases he : cycleEnd ns with
  | none =>
    have hs := cyc_none.mp he
    walk_at "z"
    refine ⟨ns, rfl, ⟨by omega, by omega⟩, hb6, ?_⟩
    rw [hs]
    simp only [oI]
    walk_at "z"
    refine ⟨ns, rfl, ⟨by omega, by omega⟩, hb6, ?_⟩
    rw [he]
    simp only [oL]
    walk_at "z"
    rename_i a a0 a1 t t0 t1
    obtain ⟨k, rfl⟩ := Int.eq_ofNat_of_zero_le a0
    rw [List.length_map] at a1
    have hk : k < ns.length := by omega
    have lr := rot_len ns k
    refine ⟨by rw [rot_cutlen]; omega, ?_⟩
    rw [rot_cut]
    walk_at "z"
    refine ⟨rot ns k, rfl, ⟨by omega, by omega⟩, rot_mem hb6, ?_⟩
    rw [cyc_rot_steps (Nat.le_of_lt hk), hs]
    simp only [oI]
    walk_at "z"
    refine ⟨rot ns k, rfl, ⟨by omega, by omega⟩, rot_mem hb6, ?_⟩
    rw [cyc_rot_end hk, he]
    simp only [oL, Option.map]
    walk_at "z"
    refine rd_neSame (n := 1) rfl (nice_lst (n := 0) (nice_two nice_non nice_non)) (by decide) ⟨_, rfl, ?_⟩
    walk_at "z"
    rw [← List.map_reverse]
    refine ⟨ns.reverse, rfl, ⟨by omega, by omega⟩, hbr, ?_⟩
    rw [cyc_rev_steps, hs]
    simp only [oI]
    walk_at "z"
    rw [← List.map_reverse]
    refine ⟨ns.reverse, rfl, ⟨by omega, by omega⟩, hbr, ?_⟩
    rw [cyc_rev_end, he]
    simp only [oL, Option.map]
    walk_at "z"
    refine rd_neSame (n := 1) rfl (nice_lst (n := 0) (nice_two nice_non nice_non)) (by decide) ⟨_, rfl, ?_⟩
    walk_at "z"
    refine ⟨_, _, _, fun x => .int ((1 + t) * x), rfl, fun x hx => ?_, ?_⟩
    · have hx := hb x hx
      walk_at "z"
    rw [mul_map]
    walk_at "z"
    have lm := mul_len (1 + t) ns
    refine ⟨mulL (1 + t) ns, rfl, ⟨by omega, by omega⟩, mul_bound (by omega) (by omega) hb, ?_⟩
    rw [cyc_mul_steps (by omega), hs]
    simp only [oI]
    walk_at "z"
    refine ⟨mulL (1 + t) ns, rfl, ⟨by omega, by omega⟩, mul_bound (by omega) (by omega) hb, ?_⟩
    rw [cyc_mul_end (by omega), he]
    simp only [oL, Option.map]
    walk_at "z"
    refine rd_neSame (n := 1) rfl (nice_lst (n := 0) (nice_two nice_non nice_non)) (by decide) ⟨_, rfl, ?_⟩
    walk_at "z"
    exact h
  | some e =>
    obtain ⟨c, hs⟩ : ∃ c, cycleSteps ns = some c := by
      cases hc : cycleSteps ns with
      | none => rw [cyc_none.mpr hc] at he; exact absurd he (by simp)
      | some c => exact ⟨c, rfl⟩
    have hl := cycleEnd_len he
    walk_at "z"
    refine ⟨ns, rfl, ⟨by omega, by omega⟩, hb6, ?_⟩
    rw [hs]
    simp only [oI]
    walk_at "z"
    refine ⟨ns, rfl, ⟨by omega, by omega⟩, hb6, ?_⟩
    rw [he]
    simp only [oL]
    walk_at "z"
    rename_i a a0 a1 t t0 t1
    obtain ⟨k, rfl⟩ := Int.eq_ofNat_of_zero_le a0
    rw [List.length_map] at a1
    have hk : k < ns.length := by omega
    have lr := rot_len ns k
    refine ⟨by rw [rot_cutlen]; omega, ?_⟩
    rw [rot_cut]
    walk_at "z"
    refine ⟨by rw [rot_cutlen]; omega, ?_⟩
    rw [rot_cut]
    walk_at "z"
    refine ⟨rot ns k, rfl, ⟨by omega, by omega⟩, rot_mem hb6, ?_⟩
    rw [cyc_rot_steps (Nat.le_of_lt hk), hs]
    simp only [oI]
    walk_at "z"
    refine ⟨rot ns k, rfl, ⟨by omega, by omega⟩, rot_mem hb6, ?_⟩
    rw [cyc_rot_end hk, he]
    simp only [oL, Option.map]
    walk_at "z"
    refine rd_neSame (n := 2) rfl (nice_lst (n := 1) (nice_two (nice_int _) (nice_iL _))) (by decide) ⟨_, rfl, ?_⟩
    walk_at "z"
    rw [← List.map_reverse]
    refine ⟨ns.reverse, rfl, ⟨by omega, by omega⟩, hbr, ?_⟩
    rw [cyc_rev_steps, hs]
    simp only [oI]
    walk_at "z"
    rw [← List.map_reverse]
    refine ⟨ns.reverse, rfl, ⟨by omega, by omega⟩, hbr, ?_⟩
    rw [cyc_rev_end, he]
    simp only [oL, Option.map]
    walk_at "z"
    refine rd_neSame (n := 2) (by unfold iL; rw [List.map_reverse]) (nice_lst (n := 1) (nice_two (nice_int _) (nice_iL _))) (by decide) ⟨_, rfl, ?_⟩
    walk_at "z"
    have heb := e_bound he (by omega) hb
    refine ⟨_, _, _, fun x => .int ((1 + t) * x), rfl, fun x hx => ?_, ?_⟩
    · have hx := heb x hx
      walk_at "z"
    rw [mul_map]
    walk_at "z"
    refine ⟨_, _, _, fun x => .int ((1 + t) * x), rfl, fun x hx => ?_, ?_⟩
    · have hx := hb x hx
      walk_at "z"
    rw [mul_map]
    walk_at "z"
    have lm := mul_len (1 + t) ns
    refine ⟨mulL (1 + t) ns, rfl, ⟨by omega, by omega⟩, mul_bound (by omega) (by omega) hb, ?_⟩
    rw [cyc_mul_steps (by omega), hs]
    simp only [oI]
    walk_at "z"
    refine ⟨mulL (1 + t) ns, rfl, ⟨by omega, by omega⟩, mul_bound (by omega) (by omega) hb, ?_⟩
    rw [cyc_mul_end (by omega), he]
    simp only [oL, Option.map]
    walk_at "z"
    refine rd_neSame (n := 2) rfl (nice_lst (n := 1) (nice_two (nice_int _) (nice_iL _))) (by decide) ⟨_, rfl, ?_⟩
    walk_at "z"
    have heb6 : ∀ n ∈ e, -(10 ^ 60) ≤ n ∧ n ≤ 10 ^ 60 := fun n hm => by
      have := heb n hm
      omega
    obtain ⟨z1, z2⟩ := cyc_end_self he
    refine ⟨e, rfl, ⟨by omega, by omega⟩, heb6, ?_⟩
    rw [z1]
    simp only [oI]
    walk_at "z"
    refine ⟨e, rfl, ⟨by omega, by omega⟩, heb6, ?_⟩
    rw [z2]
    simp only [oL]
    walk_at "z"
    refine rd_eqSame (n := 2) rfl (nice_lst (n := 1) (nice_two (nice_int _) (nice_iL _))) (by decide) ?_
    walk_at "z"
    exact h
abbrev s_law : Stmt := topS 21
theorem sc_law : FnScope ["_law_script", "_law_k", "_law_pool_here", "_law_many", "_law_row", "_law_times", "_law_count", "_law_end", "_law_great", "_law_last", "_law_ring", "_law_number_here"] ["_law_script"] (defScope s_law) := ⟨rfl, rfl, rfl, by decide +kernel, rfl, by decide +kernel, by decide +kernel⟩
theorem ok_law {f : Addr} {fd : FuncData} (F : Fun K "law" "law" s_law f fd) (gF : mg "law" = some (.ref f)) (bF : Binds K fd ["_law_script"] []) (c_Lcycle_right : Cal P w K mg base "_law_cycle_right" 4 ["_law_pool_here", "_law_row"] (spD K wpRight)) (c_Lnumbers : Cal P w K mg base "_law_numbers" 3 ["_law_pool_here", "_law_many"] (spN K wpNumbers)) (c_Lpool : Cal P w K mg base "_law_pool" 1 ["_law_script", "_law_k"] (spN K wpPool)) (c_Ltake : Cal P w K mg base "_law_take" 1 ["_law_pool_here", "_law_sides"] (spD K wpTake)) (c_path_end : Cal P w K mg base "path_end" 3 ["numbers"] (spN K wpPathEnd)) (c_path_steps : Cal P w K mg base "path_steps" 3 ["numbers"] (spD K wpPathSteps)) (z_len : mg "len" = none) (z_max : mg "max" = none) (z_min : mg "min" = none) (z_range : mg "range" = none) (z_sum : mg "sum" = none) : FnOk P w K mg base CX0 5 f fd ["_law_script"] (spD K wpLaw) := by
  refine okD F sc_law (by rintro _ _ _ ⟨_, rfl, _⟩; rfl) (fun cdv A outer s H hr => ⟨_, (pss_cons (ps_for PassesOwn.never rfl (pi_range1 (by rfl) z_range (pa_cons (pe_callB (cz_max2 rfl) (by rfl) z_max (by decide +kernel) (pa_cons pe_int (pa_cons (pe_callB (cz_min2 rfl) (by rfl) z_min (by decide +kernel) (pa_cons (pe_callB (kz_len K) (by rfl) z_len (by decide +kernel) (pa_cons (pv 0) pa_nil)) (pa_cons pe_int pa_nil))) pa_nil))) pa_nil)) (pg_name (i := 1) sc_law.nd rfl (Or.inl rfl)) (pss_cons (ps_setO (i := 2) sc_law.nd rfl (Or.inl rfl) (pe_callC c_Lpool (hr.mono (by decide)) (by rfl) (pa_cons (pv 0) (pa_cons (pv 1) pa_nil))))
  (pss_cons (ps_set (i := 3) sc_law.nd rfl (Or.inl rfl) (pe_op op_add pe_int (pe_callC c_Ltake (hr.mono (by decide)) (by rfl) (pa_cons (pv 2) (pa_cons pe_int pa_nil)))))
  (pss_cons (ps_asg (pe_tup (pa_cons (pe_callC c_Lnumbers (hr.mono (by decide)) (by rfl) (pa_cons (pv 2) (pa_cons (pv 3) pa_nil))) (pa_cons (pe_op op_add pe_int (pe_callC c_Ltake (hr.mono (by decide)) (by rfl) (pa_cons (pv 2) (pa_cons (pe_op op_pow pe_int pe_int) pa_nil)))) pa_nil))) (kpg_tup (n := 2) K (by rfl) (pgs_cons (pg_name (i := 4) sc_law.nd rfl (Or.inl rfl)) (pgs_cons (pg_name (i := 5) sc_law.nd rfl (Or.inr rfl)) pgs_nil))))
  (pss_cons (ps_par (i := 6) (j := 7) (by rfl) sc_law.nd rfl rfl (by decide) rfl rfl (pa_cons (pe_callC c_path_steps (hr.mono (by decide)) (by rfl) (pa_cons (pv 4) pa_nil)) (pa_cons (pe_callC c_path_end (hr.mono (by decide)) (by rfl) (pa_cons (pv 4) pa_nil)) pa_nil)) (by rfl))
  (pss_cons (ps_if (pt_cmpR (kop_neD K hr.units) (pe_lst (pa_cons (pe_callC c_path_steps (hr.mono (by decide)) (by rfl) (pa_cons (k_revL K (pv 4)) pa_nil)) (pa_cons (pe_callC c_path_end (hr.mono (by decide)) (by rfl) (pa_cons (k_revL K (pv 4)) pa_nil)) pa_nil))) (pe_lst (pa_cons (pv 6) (pa_cons (k_revL K (pv 7)) pa_nil))) (nomark _)) (pss_one (ps_ret pe_bl)) pss_nil)
  (pss_cons (ps_setLc (i := 8) (own := [("_law_number_here", 11)]) (by rfl) sc_law.nd rfl rfl (sw_true rfl rfl rfl (by decide +kernel)) (kpi_list K (pv 4)) (blkOk_by (N := ["_law_script", "_law_k", "_law_pool_here", "_law_many", "_law_row", "_law_times", "_law_count", "_law_end", "_law_great", "_law_last", "_law_ring", "_law_number_here"]) (sc := defScope s_law) (by decide +kernel)) (fun _ _ _ _ _ => (pg_name (i := 11) sc_law.nd rfl (Or.inl rfl))) (fun _ _ _ _ _ => pts_nil) (fun _ _ _ _ _ => (pe_op op_mul (pv 5) (pv 11))))
  (pss_cons (ps_if (pt_cmpR (kop_neD K hr.units) (pe_lst (pa_cons (pe_callC c_path_steps (hr.mono (by decide)) (by rfl) (pa_cons (pv 8) pa_nil)) (pa_cons (pe_callC c_path_end (hr.mono (by decide)) (by rfl) (pa_cons (pv 8) pa_nil)) pa_nil))) (pe_lst (pa_cons (pv 6) (pa_cons (pe_lc (own := [("_law_number_here", 11)]) (by rfl) sc_law.nd (kpi_list K (pv 7)) (blkOk_by (N := ["_law_script", "_law_k", "_law_pool_here", "_law_many", "_law_row", "_law_times", "_law_count", "_law_end", "_law_great", "_law_last", "_law_ring", "_law_number_here"]) (sc := defScope s_law) (by decide +kernel)) (fun _ _ _ _ _ => (pg_name (i := 11) sc_law.nd rfl (Or.inl rfl))) (fun _ _ _ _ _ => pts_nil) (fun _ _ _ _ _ => (pe_op op_mul (pv 5) (pv 11)))) pa_nil))) (nomark _)) (pss_one (ps_ret pe_bl)) pss_nil)
  (pss_cons (ps_if (PW.pt (pw_or (pt_cmpR (kop_neD K hr.units) (pe_lst (pa_cons (pe_callC c_path_steps (hr.mono (by decide)) (by rfl) (pa_cons (pv 7) pa_nil)) (pa_cons (pe_callC c_path_end (hr.mono (by decide)) (by rfl) (pa_cons (pv 7) pa_nil)) pa_nil))) (pe_lst (pa_cons pe_int (pa_cons (pv 7) pa_nil))) (nomark _)) (pw_or1 (pt_cmpR op_ne (pe_cmpR op_eq (pv 6) pe_int (nomark _)) (pe_cmpR op_ge (pe_callB (kr_min K) (by rfl) z_min (by decide +kernel) (pa_cons (pv 4) pa_nil)) pe_int (nomark _)) (nomark _))))) (pss_one (ps_ret pe_bl)) pss_nil)
  (pss_one (ps_if (pt_cmpR op_gt (pv 3) pe_int (nomark _)) (pss_cons (ps_set (i := 9) sc_law.nd rfl (Or.inl rfl) (pe_op op_sub (pe_op op_add pe_int (pe_callC c_Ltake (hr.mono (by decide)) (by rfl) (pa_cons (pv 2) (pa_cons pe_int pa_nil)))) (pe_callB (kr_sum K) (by rfl) z_sum (by decide +kernel) (pa_cons (pe_slice (ksl_list K) (pv 4) po_none (po_some (pe_un un_neg pe_int))) pa_nil))))
  (pss_one (ps_for PassesOwn.never rfl (kpi_list K (pe_lst (pa_cons (pv 4) (pa_cons (pe_op op_cat (pe_slice (ksl_list K) (pv 4) po_none (po_some (pe_un un_neg pe_int))) (pe_lst (pa_cons (pv 9) pa_nil))) (pa_cons (pe_op op_cat (pe_slice (ksl_list K) (pv 4) po_none (po_some (pe_un un_neg pe_int))) (pe_lst (pa_cons (pe_op op_add (pv 9) (pe_op op_pow pe_int pe_int)) pa_nil))) pa_nil))))) (pg_name (i := 10) sc_law.nd rfl (Or.inl rfl)) (pss_one (ps_if (pt_not (pt_val (pe_callC c_Lcycle_right (hr.mono (by decide)) (by rfl) (pa_cons (pv 2) (pa_cons (pv 10) pa_nil))))) (pss_one (ps_ret pe_bl)) pss_nil))))) pss_nil)))))))))))
  (pss_one (ps_ret pe_bl))), ?_⟩)
  try dsimp only [cxOf]
  intro ds q kx h
  obtain ⟨ns, rfl, hn, h⟩ := h
  walk_at "z"
  refine sc_forR (n := if (if (6 : Int) < (ns.length : Int) then 6 else (ns.length : Int)) > 1 then (if (6 : Int) < (ns.length : Int) then 6 else (ns.length : Int)) else 1) (by split <;> (try split) <;> omega) (fun i Δ => ∃ y1 y2 y3 y4 y5 y6 y7 y8 y9 y10 y11, Δ = [.dat (.scr ns), y1, y2, y3, y4, y5, y6, y7, y8, y9, y10, y11]) ⟨_, _, _, _, _, _, _, _, _, _, _, rfl⟩ ?_ ?_ ?_ (by split <;> (try split) <;> omega)
  · rintro i Δ hi ⟨y1, y2, y3, y4, y5, y6, y7, y8, y9, y10, y11, rfl⟩
    have hi6 : (i : Int) < 6 := by
      revert hi
      split <;> (try split) <;> omega
    walk_at "z"
    refine ⟨ns, i, rfl, ⟨by omega, by omega⟩, fun x y hy0 hy1 => ?_⟩
    refine sc_toPool 2 (by rfl) ⟨hy0, hy1⟩ ?_
    walk_at "z"
    rename_i m m0 m1
    refine ⟨1 + m, rfl, ⟨by omega, by omega⟩, fun r hr hrb => ?_⟩
    have hrr : r.reverse.length = r.length := List.length_reverse
    have hel := pathEnd_len r
    walk_at "z"
    rename_i t t0 t1
    refine ⟨r, rfl, ⟨by omega, by omega⟩, ?_⟩
    walk_at "z"
    refine ⟨r, rfl, ⟨by omega, by omega⟩, ?_⟩
    walk_at "z"
    rw [← List.map_reverse]
    refine ⟨r.reverse, rfl, ⟨by omega, by omega⟩, ?_⟩
    rw [path_rev_steps]
    walk_at "z"
    rw [← List.map_reverse]
    refine ⟨r.reverse, rfl, ⟨by omega, by omega⟩, ?_⟩
    rw [path_rev_end]
    walk_at "z"
    refine rd_neSame (n := 2) (by rw [List.map_reverse]) (nice_lst (n := 1) (nice_two (nice_int _) (nice_iL _))) (by decide) ⟨_, rfl, ?_⟩
    walk_at "z"
    refine ⟨_, _, _, fun x => .int ((1 + t) * x), rfl, fun x hx => ?_, ?_⟩
    · have hx := hrb x hx
      walk_at "z"
    rw [mul_map]
    have lm := mul_len (1 + t) r
    walk_at "z"
    refine ⟨mulL (1 + t) r, rfl, ⟨by omega, by omega⟩, ?_⟩
    rw [path_mul_steps (by omega)]
    walk_at "z"
    refine ⟨mulL (1 + t) r, rfl, ⟨by omega, by omega⟩, ?_⟩
    rw [path_mul_end (by omega)]
    walk_at "z"
    have hpb := pe_bound (by omega) hrb
    refine ⟨_, _, _, fun x => .int ((1 + t) * x), rfl, fun x hx => ?_, ?_⟩
    · have hx := hpb x hx
      walk_at "z"
    rw [mul_map]
    walk_at "z"
    refine rd_neSame (n := 2) rfl (nice_lst (n := 1) (nice_two (nice_int _) (nice_iL _))) (by decide) ⟨_, rfl, ?_⟩
    walk_at "z"
    refine ⟨pathEnd r, rfl, ⟨by omega, by omega⟩, ?_⟩
    rw [steps_zero (pathEnd_nn r)]
    walk_at "z"
    refine ⟨pathEnd r, rfl, ⟨by omega, by omega⟩, ?_⟩
    rw [end_self (pathEnd_nn r)]
    walk_at "z"
    refine rd_neSame (n := 2) rfl (nice_lst (n := 1) (nice_two (nice_int _) (nice_iL _))) (by decide) ?_
    walk_at "z"
    intro mn hmn hall
    have hdec : decide (0 ≤ mn) = decide (pathSteps r = 0) := by
      refine decide_eq_decide.mpr ⟨fun h0 => steps_zero fun x hx => Int.le_trans h0 (hall x hx), fun h0 => steps_zero_iff h0 mn hmn⟩
    walk_at "z"
    rw [hdec]
    refine ite_nF rfl ?_
    walk_at "z"
    refine ite_d (fun h2 => ?_) (fun h2 => ?_)
    · walk_at "z"
      rename_i z z0 z1
      refine ⟨r.dropLast, by rw [cut_map, cut_init], ?_⟩
      walk_at "z"
      refine sc_for (ei_list ?_)
      walk_at "z"
      have hds := dl_sum (by omega) hrb
      refine ⟨ring_len (by omega), ?_⟩
      rw [ring_cut]
      walk_at "z"
      refine ⟨ring_len (by omega), ?_⟩
      rw [ring_cut]
      walk_at "z"
      have hR : ∀ d ∈ [D.lst (r.map D.int), D.lst ((r.dropLast ++ [1 + z - r.dropLast.sum]).map D.int), D.lst ((r.dropLast ++ [1 + z - r.dropLast.sum + 1000000000000000000000000000000]).map D.int)], Ring d := by
        intro d hd
        rcases List.mem_cons.mp hd with rfl | hd
        · exact ⟨r, rfl, ⟨by omega, by omega⟩, fun n hn => by have := hrb n hn; omega⟩
        rcases List.mem_cons.mp hd with rfl | hd
        · exact ring_new (by omega) (by omega) hrb ⟨by omega, by omega⟩
        rcases List.mem_cons.mp hd with rfl | hd
        · exact ring_new (by omega) (by omega) hrb ⟨by omega, by omega⟩
        · cases hd
      refine ⟨fun _ Δ => ∃ y1 y2 y3 y4 y5 y6 y7 y8 y9 y10, Δ = [.dat (.scr ns), y1, .dat .pool, y2, y3, y4, y5, y6, y7, y8, y9, y10], ⟨_, _, _, _, _, _, _, _, _, _, rfl⟩, ?_, ?_⟩
      · rintro j d Δ hd ⟨y1, y2, y3, y4, y5, y6, y7, y8, y9, y10, rfl⟩
        obtain ⟨rg, rfl, h3, hgb⟩ := hR d (List.mem_of_getElem? hd)
        walk_at "z"
        refine ⟨rg, rfl, h3, hgb, ?_⟩
        walk_at "z"
        exact ⟨_, _, _, _, _, _, _, _, _, _, rfl⟩
      · rintro Δ ⟨y1, y2, y3, y4, y5, y6, y7, y8, y9, y10, rfl⟩
        exact ⟨_, _, _, _, _, _, _, _, _, _, _, rfl⟩
    · walk_at "z"
      exact ⟨_, _, _, _, _, _, _, _, _, _, _, rfl⟩
  · rintro Δ ⟨y1, y2, y3, y4, y5, y6, y7, y8, y9, y10, y11, rfl⟩
    walk_at "z"
    exact h
  · intro kl hk
    walk_at "z"
    exact hk
end
theorem all_mk {l : PySem.W.OpenLaw} {w : World} {K : PySem.W.Frag} {h : Heap} {mg : Str → Option Value} {fa : Addr} (X : K.In h) (G : h.Ns mainGlobals mg) (hfa : mg "law" = some (.ref fa))
    {f0 : Addr} {od0 an0 : Option Addr} {sl0 : Array (Option Value)} {oc0 kV0 dc0 pm0 cd0 ct0 : Value}
    (a0 : PySem.W.nsIn K mainGlobals "_law_pool" = some (some (.ref f0))) (l0 : K.lookup f0 = some ⟨oc0, od0, .func (PySem.W.fnOf "_law_pool" "_law_pool" (defArgs s_Lpool) (defBody s_Lpool) (defScope s_Lpool) .none kV0 dc0 pm0 an0 cd0 ct0), sl0⟩) (c0 : PySem.W.codeIn K cd0 "_law_pool" = true) (k0 : PySem.W.keepIn K (.ref f0) = true)
    {f1 : Addr} {od1 an1 : Option Addr} {sl1 : Array (Option Value)} {oc1 kV1 dc1 pm1 cd1 ct1 : Value}
    (a1 : PySem.W.nsIn K mainGlobals "_law_take" = some (some (.ref f1))) (l1 : K.lookup f1 = some ⟨oc1, od1, .func (PySem.W.fnOf "_law_take" "_law_take" (defArgs s_Ltake) (defBody s_Ltake) (defScope s_Ltake) .none kV1 dc1 pm1 an1 cd1 ct1), sl1⟩) (c1 : PySem.W.codeIn K cd1 "_law_take" = true) (k1 : PySem.W.keepIn K (.ref f1) = true)
    {f2 : Addr} {od2 an2 : Option Addr} {sl2 : Array (Option Value)} {oc2 kV2 dc2 pm2 cd2 ct2 : Value}
    (a2 : PySem.W.nsIn K mainGlobals "is_integer" = some (some (.ref f2))) (l2 : K.lookup f2 = some ⟨oc2, od2, .func (PySem.W.fnOf "is_integer" "is_integer" (defArgs s_is_integer) (defBody s_is_integer) (defScope s_is_integer) .none kV2 dc2 pm2 an2 cd2 ct2), sl2⟩) (c2 : PySem.W.codeIn K cd2 "is_integer" = true) (k2 : PySem.W.keepIn K (.ref f2) = true)
    {f3 : Addr} {od3 an3 : Option Addr} {sl3 : Array (Option Value)} {oc3 kV3 dc3 pm3 cd3 ct3 : Value}
    (a3 : PySem.W.nsIn K mainGlobals "check_numbers" = some (some (.ref f3))) (l3 : K.lookup f3 = some ⟨oc3, od3, .func (PySem.W.fnOf "check_numbers" "check_numbers" (defArgs s_check_numbers) (defBody s_check_numbers) (defScope s_check_numbers) .none kV3 dc3 pm3 an3 cd3 ct3), sl3⟩) (c3 : PySem.W.codeIn K cd3 "check_numbers" = true) (k3 : PySem.W.keepIn K (.ref f3) = true)
    {f4 : Addr} {od4 an4 : Option Addr} {sl4 : Array (Option Value)} {oc4 kV4 dc4 pm4 cd4 ct4 : Value}
    (a4 : PySem.W.nsIn K mainGlobals "sums_of" = some (some (.ref f4))) (l4 : K.lookup f4 = some ⟨oc4, od4, .func (PySem.W.fnOf "sums_of" "sums_of" (defArgs s_sums_of) (defBody s_sums_of) (defScope s_sums_of) .none kV4 dc4 pm4 an4 cd4 ct4), sl4⟩) (c4 : PySem.W.codeIn K cd4 "sums_of" = true) (k4 : PySem.W.keepIn K (.ref f4) = true)
    {f5 : Addr} {od5 an5 : Option Addr} {sl5 : Array (Option Value)} {oc5 kV5 dc5 pm5 cd5 ct5 : Value}
    (a5 : PySem.W.nsIn K mainGlobals "differences_of" = some (some (.ref f5))) (l5 : K.lookup f5 = some ⟨oc5, od5, .func (PySem.W.fnOf "differences_of" "differences_of" (defArgs s_differences_of) (defBody s_differences_of) (defScope s_differences_of) .none kV5 dc5 pm5 an5 cd5 ct5), sl5⟩) (c5 : PySem.W.codeIn K cd5 "differences_of" = true) (k5 : PySem.W.keepIn K (.ref f5) = true)
    {f6 : Addr} {od6 an6 : Option Addr} {sl6 : Array (Option Value)} {oc6 kV6 dc6 pm6 cd6 ct6 : Value}
    (a6 : PySem.W.nsIn K mainGlobals "path_steps" = some (some (.ref f6))) (l6 : K.lookup f6 = some ⟨oc6, od6, .func (PySem.W.fnOf "path_steps" "path_steps" (defArgs s_path_steps) (defBody s_path_steps) (defScope s_path_steps) .none kV6 dc6 pm6 an6 cd6 ct6), sl6⟩) (c6 : PySem.W.codeIn K cd6 "path_steps" = true) (k6 : PySem.W.keepIn K (.ref f6) = true)
    {f7 : Addr} {od7 an7 : Option Addr} {sl7 : Array (Option Value)} {oc7 kV7 dc7 pm7 cd7 ct7 : Value}
    (a7 : PySem.W.nsIn K mainGlobals "path_end" = some (some (.ref f7))) (l7 : K.lookup f7 = some ⟨oc7, od7, .func (PySem.W.fnOf "path_end" "path_end" (defArgs s_path_end) (defBody s_path_end) (defScope s_path_end) .none kV7 dc7 pm7 an7 cd7 ct7), sl7⟩) (c7 : PySem.W.codeIn K cd7 "path_end" = true) (k7 : PySem.W.keepIn K (.ref f7) = true)
    {f8 : Addr} {od8 an8 : Option Addr} {sl8 : Array (Option Value)} {oc8 kV8 dc8 pm8 cd8 ct8 : Value}
    (a8 : PySem.W.nsIn K mainGlobals "arc_sums" = some (some (.ref f8))) (l8 : K.lookup f8 = some ⟨oc8, od8, .func (PySem.W.fnOf "arc_sums" "arc_sums" (defArgs s_arc_sums) (defBody s_arc_sums) (defScope s_arc_sums) .none kV8 dc8 pm8 an8 cd8 ct8), sl8⟩) (c8 : PySem.W.codeIn K cd8 "arc_sums" = true) (k8 : PySem.W.keepIn K (.ref f8) = true)
    {f9 : Addr} {od9 an9 : Option Addr} {sl9 : Array (Option Value)} {oc9 kV9 dc9 pm9 cd9 ct9 : Value}
    (a9 : PySem.W.nsIn K mainGlobals "cycle_steps" = some (some (.ref f9))) (l9 : K.lookup f9 = some ⟨oc9, od9, .func (PySem.W.fnOf "cycle_steps" "cycle_steps" (defArgs s_cycle_steps) (defBody s_cycle_steps) (defScope s_cycle_steps) .none kV9 dc9 pm9 an9 cd9 ct9), sl9⟩) (c9 : PySem.W.codeIn K cd9 "cycle_steps" = true) (k9 : PySem.W.keepIn K (.ref f9) = true)
    {f10 : Addr} {od10 an10 : Option Addr} {sl10 : Array (Option Value)} {oc10 kV10 dc10 pm10 cd10 ct10 : Value}
    (a10 : PySem.W.nsIn K mainGlobals "cycle_end" = some (some (.ref f10))) (l10 : K.lookup f10 = some ⟨oc10, od10, .func (PySem.W.fnOf "cycle_end" "cycle_end" (defArgs s_cycle_end) (defBody s_cycle_end) (defScope s_cycle_end) .none kV10 dc10 pm10 an10 cd10 ct10), sl10⟩) (c10 : PySem.W.codeIn K cd10 "cycle_end" = true) (k10 : PySem.W.keepIn K (.ref f10) = true)
    {f11 : Addr} {od11 an11 : Option Addr} {sl11 : Array (Option Value)} {oc11 kV11 dc11 pm11 cd11 ct11 : Value}
    (a11 : PySem.W.nsIn K mainGlobals "_law_number" = some (some (.ref f11))) (l11 : K.lookup f11 = some ⟨oc11, od11, .func (PySem.W.fnOf "_law_number" "_law_number" (defArgs s_Lnumber) (defBody s_Lnumber) (defScope s_Lnumber) .none kV11 dc11 pm11 an11 cd11 ct11), sl11⟩) (c11 : PySem.W.codeIn K cd11 "_law_number" = true) (k11 : PySem.W.keepIn K (.ref f11) = true)
    {f12 : Addr} {od12 an12 : Option Addr} {sl12 : Array (Option Value)} {oc12 kV12 dc12 pm12 cd12 ct12 : Value}
    (a12 : PySem.W.nsIn K mainGlobals "_law_numbers" = some (some (.ref f12))) (l12 : K.lookup f12 = some ⟨oc12, od12, .func (PySem.W.fnOf "_law_numbers" "_law_numbers" (defArgs s_Lnumbers) (defBody s_Lnumbers) (defScope s_Lnumbers) .none kV12 dc12 pm12 an12 cd12 ct12), sl12⟩) (c12 : PySem.W.codeIn K cd12 "_law_numbers" = true) (k12 : PySem.W.keepIn K (.ref f12) = true)
    {f13 : Addr} {od13 an13 : Option Addr} {sl13 : Array (Option Value)} {oc13 kV13 dc13 pm13 cd13 ct13 : Value}
    (a13 : PySem.W.nsIn K mainGlobals "_law_cycle_right" = some (some (.ref f13))) (l13 : K.lookup f13 = some ⟨oc13, od13, .func (PySem.W.fnOf "_law_cycle_right" "_law_cycle_right" (defArgs s_Lcycle_right) (defBody s_Lcycle_right) (defScope s_Lcycle_right) .none kV13 dc13 pm13 an13 cd13 ct13), sl13⟩) (c13 : PySem.W.codeIn K cd13 "_law_cycle_right" = true) (k13 : PySem.W.keepIn K (.ref f13) = true)
    {f14 : Addr} {od14 an14 : Option Addr} {sl14 : Array (Option Value)} {oc14 kV14 dc14 pm14 cd14 ct14 : Value}
    (a14 : PySem.W.nsIn K mainGlobals "law" = some (some (.ref f14))) (l14 : K.lookup f14 = some ⟨oc14, od14, .func (PySem.W.fnOf "law" "law" (defArgs s_law) (defBody s_law) (defScope s_law) .none kV14 dc14 pm14 an14 cd14 ct14), sl14⟩) (c14 : PySem.W.codeIn K cd14 "law" = true) (k14 : PySem.W.keepIn K (.ref f14) = true)
    (z_all : PySem.W.nsIn K mainGlobals "all" = some none)
    (z_any : PySem.W.nsIn K mainGlobals "any" = some none)
    (z_bool : PySem.W.nsIn K mainGlobals "bool" = some none)
    (z_enumerate : PySem.W.nsIn K mainGlobals "enumerate" = some none)
    (z_int : PySem.W.nsIn K mainGlobals "int" = some none)
    (z_isinstance : PySem.W.nsIn K mainGlobals "isinstance" = some none)
    (z_len : PySem.W.nsIn K mainGlobals "len" = some none)
    (z_list : PySem.W.nsIn K mainGlobals "list" = some none)
    (z_max : PySem.W.nsIn K mainGlobals "max" = some none)
    (z_min : PySem.W.nsIn K mainGlobals "min" = some none)
    (z_range : PySem.W.nsIn K mainGlobals "range" = some none)
    (z_sorted : PySem.W.nsIn K mainGlobals "sorted" = some none)
    (z_sum : PySem.W.nsIn K mainGlobals "sum" = some none)
    (z_zip : PySem.W.nsIn K mainGlobals "zip" = some none)
    {u_MOST_NUMBERS : Value} (g_MOST_NUMBERS : PySem.W.nsIn K mainGlobals "MOST_NUMBERS" = some (some u_MOST_NUMBERS)) (r_MOST_NUMBERS : RelV (.int 200) u_MOST_NUMBERS) :
    ∃ fd : FuncData, (∀ (s : Shared) (v : Value), BindsTo s fd ⟨[v], []⟩ [("_law_script", v)]) ∧ ∀ base : Heap, K.In base → base.Ns mainGlobals mg → FnOk l.prog w K mg base CX0 5 fa fd ["_law_script"] (spD K wpLaw) := by
  have e := hfa.symm.trans (PySem.W.mg_of X G a14)
  cases e
  have F0 := fun_mk (st := s_Lpool) l0 c0 k0
  have b0 := F0.binds (ps := ["_law_script", "_law_k"]) fun _ _ _ _ _ _ us hl => match us, hl with | [_, _], _ => rfl
  have m0 := PySem.W.mg_of X G a0
  have F1 := fun_mk (st := s_Ltake) l1 c1 k1
  have b1 := F1.binds (ps := ["_law_pool_here", "_law_sides"]) fun _ _ _ _ _ _ us hl => match us, hl with | [_, _], _ => rfl
  have m1 := PySem.W.mg_of X G a1
  have F2 := fun_mk (st := s_is_integer) l2 c2 k2
  have b2 := F2.binds (ps := ["thing"]) fun _ _ _ _ _ _ us hl => match us, hl with | [_], _ => rfl
  have m2 := PySem.W.mg_of X G a2
  have F3 := fun_mk (st := s_check_numbers) l3 c3 k3
  have b3 := F3.binds (ps := ["numbers", "least"]) fun _ _ _ _ _ _ us hl => match us, hl with | [_, _], _ => rfl
  have m3 := PySem.W.mg_of X G a3
  have F4 := fun_mk (st := s_sums_of) l4 c4 k4
  have b4 := F4.binds (ps := ["numbers"]) fun _ _ _ _ _ _ us hl => match us, hl with | [_], _ => rfl
  have m4 := PySem.W.mg_of X G a4
  have F5 := fun_mk (st := s_differences_of) l5 c5 k5
  have b5 := F5.binds (ps := ["sums"]) fun _ _ _ _ _ _ us hl => match us, hl with | [_], _ => rfl
  have m5 := PySem.W.mg_of X G a5
  have F6 := fun_mk (st := s_path_steps) l6 c6 k6
  have b6 := F6.binds (ps := ["numbers"]) fun _ _ _ _ _ _ us hl => match us, hl with | [_], _ => rfl
  have m6 := PySem.W.mg_of X G a6
  have F7 := fun_mk (st := s_path_end) l7 c7 k7
  have b7 := F7.binds (ps := ["numbers"]) fun _ _ _ _ _ _ us hl => match us, hl with | [_], _ => rfl
  have m7 := PySem.W.mg_of X G a7
  have F8 := fun_mk (st := s_arc_sums) l8 c8 k8
  have b8 := F8.binds (ps := ["numbers"]) fun _ _ _ _ _ _ us hl => match us, hl with | [_], _ => rfl
  have m8 := PySem.W.mg_of X G a8
  have F9 := fun_mk (st := s_cycle_steps) l9 c9 k9
  have b9 := F9.binds (ps := ["numbers"]) fun _ _ _ _ _ _ us hl => match us, hl with | [_], _ => rfl
  have m9 := PySem.W.mg_of X G a9
  have F10 := fun_mk (st := s_cycle_end) l10 c10 k10
  have b10 := F10.binds (ps := ["numbers"]) fun _ _ _ _ _ _ us hl => match us, hl with | [_], _ => rfl
  have m10 := PySem.W.mg_of X G a10
  have F11 := fun_mk (st := s_Lnumber) l11 c11 k11
  have b11 := F11.binds (ps := ["_law_pool_here"]) fun _ _ _ _ _ _ us hl => match us, hl with | [_], _ => rfl
  have m11 := PySem.W.mg_of X G a11
  have F12 := fun_mk (st := s_Lnumbers) l12 c12 k12
  have b12 := F12.binds (ps := ["_law_pool_here", "_law_many"]) fun _ _ _ _ _ _ us hl => match us, hl with | [_, _], _ => rfl
  have m12 := PySem.W.mg_of X G a12
  have F13 := fun_mk (st := s_Lcycle_right) l13 c13 k13
  have b13 := F13.binds (ps := ["_law_pool_here", "_law_row"]) fun _ _ _ _ _ _ us hl => match us, hl with | [_, _], _ => rfl
  have m13 := PySem.W.mg_of X G a13
  have F14 := fun_mk (st := s_law) l14 c14 k14
  have b14 := F14.binds (ps := ["_law_script"]) fun _ _ _ _ _ _ us hl => match us, hl with | [_], _ => rfl
  have m14 := PySem.W.mg_of X G a14
  have z_all := PySem.W.mg_none_of X G z_all
  have z_any := PySem.W.mg_none_of X G z_any
  have z_bool := PySem.W.mg_none_of X G z_bool
  have z_enumerate := PySem.W.mg_none_of X G z_enumerate
  have z_int := PySem.W.mg_none_of X G z_int
  have z_isinstance := PySem.W.mg_none_of X G z_isinstance
  have z_len := PySem.W.mg_none_of X G z_len
  have z_list := PySem.W.mg_none_of X G z_list
  have z_max := PySem.W.mg_none_of X G z_max
  have z_min := PySem.W.mg_none_of X G z_min
  have z_range := PySem.W.mg_none_of X G z_range
  have z_sorted := PySem.W.mg_none_of X G z_sorted
  have z_sum := PySem.W.mg_none_of X G z_sum
  have z_zip := PySem.W.mg_none_of X G z_zip
  have g_MOST_NUMBERS : Gv mg "MOST_NUMBERS" (.int 200) := ⟨_, PySem.W.mg_of X G g_MOST_NUMBERS, r_MOST_NUMBERS⟩
  refine ⟨PySem.W.fnOf "law" "law" (defArgs s_law) (defBody s_law) (defScope s_law) .none kV14 dc14 pm14 an14 cd14 ct14, fun s v => .of_eq rfl, fun base _ _ => ?_⟩
  have C_Lpool := cal_Lpool (P := l.prog) (w := w) (base := base) F0 m0 b0 z_len
  have C_Ltake := cal_Ltake (P := l.prog) (w := w) (base := base) F1 m1 b1
  have C_is_integer := cal_is_integer (P := l.prog) (w := w) (base := base) F2 m2 b2 z_bool z_int z_isinstance
  have C_check_numbers := cal_check_numbers (P := l.prog) (w := w) (base := base) F3 m3 b3 C_is_integer z_all z_isinstance z_len z_list g_MOST_NUMBERS
  have C_sums_of := cal_sums_of (P := l.prog) (w := w) (base := base) F4 m4 b4
  have C_differences_of := cal_differences_of (P := l.prog) (w := w) (base := base) F5 m5 b5 z_zip
  have C_path_steps := cal_path_steps (P := l.prog) (w := w) (base := base) F6 m6 b6 C_check_numbers C_sums_of z_enumerate z_len z_sum
  have C_path_end := cal_path_end (P := l.prog) (w := w) (base := base) F7 m7 b7 C_check_numbers C_differences_of C_sums_of z_sorted
  have C_arc_sums := cal_arc_sums (P := l.prog) (w := w) (base := base) F8 m8 b8 z_len z_range
  have C_cycle_steps := cal_cycle_steps (P := l.prog) (w := w) (base := base) F9 m9 b9 C_arc_sums C_check_numbers z_any z_sum
  have C_cycle_end := cal_cycle_end (P := l.prog) (w := w) (base := base) F10 m10 b10 C_check_numbers C_differences_of C_sums_of z_any z_len z_list z_sorted z_sum
  have C_Lnumber := cal_Lnumber (P := l.prog) (w := w) (base := base) F11 m11 b11 C_Ltake
  have C_Lnumbers := cal_Lnumbers (P := l.prog) (w := w) (base := base) F12 m12 b12 C_Lnumber z_range
  have C_Lcycle_right := cal_Lcycle_right (P := l.prog) (w := w) (base := base) F13 m13 b13 C_Ltake C_cycle_end C_cycle_steps z_len
  exact ok_law (P := l.prog) (w := w) (base := base) F14 m14 b14 C_Lcycle_right C_Lnumbers C_Lpool C_Ltake C_path_end C_path_steps z_len z_max z_min z_range z_sum
end My
open PySem PySem.W PyProof.Rows
set_option maxHeartbeats 0 in
theorem PySem.Challenge.cw_firenegatives_k22_whole_lines_turned_holds : PySem.Challenge.rw_firenegatives_k22_whole_lines_turned.Holds := by
  w_on; o_law; k_head; (case hw => w_witness2)
  k_fill
  refine L2.walk_of (l := PySem.Challenge.rw_firenegatives_k22_whole_lines_turned) (n := 63) (k := 5) (x := "_law_script") (CX := fun _ => L2.CX0) (sp := fun w => Z.spD _ Z.wpLaw) rfl (by decide) rfl ⟨rfl, by decide, by decide⟩ (fun w h Y => PySem.W.kIn_of Y) ?F (fun _ _ a ns hl _ hS => Z.law_sp hl hS) (fun _ _ _ _ _ h => h)
  case F =>
    intro w mg fa h KX G hmg
    refine' My.all_mk KX G hmg ?a0 ?l0 ?c0 ?k0 ?a1 ?l1 ?c1 ?k1 ?a2 ?l2 ?c2 ?k2 ?a3 ?l3 ?c3 ?k3 ?a4 ?l4 ?c4 ?k4 ?a5 ?l5 ?c5 ?k5 ?a6 ?l6 ?c6 ?k6 ?a7 ?l7 ?c7 ?k7 ?a8 ?l8 ?c8 ?k8 ?a9 ?l9 ?c9 ?k9 ?a10 ?l10 ?c10 ?k10 ?a11 ?l11 ?c11 ?k11 ?a12 ?l12 ?c12 ?k12 ?a13 ?l13 ?c13 ?k13 ?a14 ?l14 ?c14 ?k14 ?z_all ?z_any ?z_bool ?z_enumerate ?z_int ?z_isinstance ?z_len ?z_list ?z_max ?z_min ?z_range ?z_sorted ?z_sum ?z_zip ?g_MOST_NUMBERS ?r_MOST_NUMBERS
    (case a0 => k_is)
    (case l0 => k_is)
    (case c0 => k_is)
    (case k0 => k_is)
    (case a1 => k_is)
    (case l1 => k_is)
    (case c1 => k_is)
    (case k1 => k_is)
    (case a2 => k_is)
    (case l2 => k_is)
    (case c2 => k_is)
    (case k2 => k_is)
    (case a3 => k_is)
    (case l3 => k_is)
    (case c3 => k_is)
    (case k3 => k_is)
    (case a4 => k_is)
    (case l4 => k_is)
    (case c4 => k_is)
    (case k4 => k_is)
    (case a5 => k_is)
    (case l5 => k_is)
    (case c5 => k_is)
    (case k5 => k_is)
    (case a6 => k_is)
    (case l6 => k_is)
    (case c6 => k_is)
    (case k6 => k_is)
    (case a7 => k_is)
    (case l7 => k_is)
    (case c7 => k_is)
    (case k7 => k_is)
    (case a8 => k_is)
    (case l8 => k_is)
    (case c8 => k_is)
    (case k8 => k_is)
    (case a9 => k_is)
    (case l9 => k_is)
    (case c9 => k_is)
    (case k9 => k_is)
    (case a10 => k_is)
    (case l10 => k_is)
    (case c10 => k_is)
    (case k10 => k_is)
    (case a11 => k_is)
    (case l11 => k_is)
    (case c11 => k_is)
    (case k11 => k_is)
    (case a12 => k_is)
    (case l12 => k_is)
    (case c12 => k_is)
    (case k12 => k_is)
    (case a13 => k_is)
    (case l13 => k_is)
    (case c13 => k_is)
    (case k13 => k_is)
    (case a14 => k_is)
    (case l14 => k_is)
    (case c14 => k_is)
    (case k14 => k_is)
    (case z_all => k_is)
    (case z_any => k_is)
    (case z_bool => k_is)
    (case z_enumerate => k_is)
    (case z_int => k_is)
    (case z_isinstance => k_is)
    (case z_len => k_is)
    (case z_list => k_is)
    (case z_max => k_is)
    (case z_min => k_is)
    (case z_range => k_is)
    (case z_sorted => k_is)
    (case z_sum => k_is)
    (case z_zip => k_is)
    (case g_MOST_NUMBERS => k_is)
    (case r_MOST_NUMBERS => exact ⟨_, rfl⟩)
